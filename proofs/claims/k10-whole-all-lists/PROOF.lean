import PyProof.Rows.All
import Wide.All
import OpenK.AllK
import Wide.FinOn
import PySem.PyData
import PySem.Builtin.Tuple.Common
import PyProof.Dict
import HandS.ForMost
import HandS.ForExc
import HandS.CallSlots
import HandS.TryMany
import HandS.ExcIs
import HandS.IsInst
import HandS.Conv
import HandS.TupAny
import HandS.TupMul
import HandS.Strs
import HandS.FStr
import HandS.Deep
import HandS.Flow
import HandS.Codes
import HandS.Style
import HandS.RaiseMore
import HandS.Defaults
import HandS.HeadHook2
import HandS.HeadEnd
import HandS.Head2
import KE.SortData
import KE.DataEq
import HandS.SetFor
import HandS.TupSets
import KE.DataMinMax
import PyProof.Claim2Refuses
import HandS.Text
import KE.GoesMore
import KE.GoesEnum
import KE.KCallOwn
import PyProof.InstNe
import KE.KRevSl
import HandS.ExcInit
import HandS.ExcField
import KE.KExcIs
import HandS.Replace
import HandS.Zip
import HandS.TupLe
import KE.KeyNested
import PySem.Challenge.RW_roundexchanges_k10_whole_all_lists
import PyProof.TableCode
set_option linter.all false
/-! RxP0: a small language of values: what the program's pieces mean over plain data. -/
namespace Rx
open PySem

abbrev D := PyData
/-- an exception: its class, its line -/
structure Xn where
  cls : Nat
  line : D
inductive R where
  | val (d : D)
  | exc (x : Xn)
inductive RL where
  | vals (ds : List D)
  | exc (x : Xn)
abbrev Fs := List (Str × D)
abbrev Om := List Fs
abbrev Env := List (Option D)
abbrev Cf := Nat → List D → Om → Option (R × Om)
/-- an expression, a list of them, a source of items -/
abbrev Ex := Cf → Env → Om → Option (R × Om)
abbrev Exs := Cf → Env → Om → Option (RL × Om)
inductive Out where
  | next (r : Env)
  | ret (d : D)
  | exc (x : Xn) (r : Env)
abbrev Sx := Cf → Env → Om → Option (Out × Om)

/-! ### data -/
def dObj (i : Nat) : D := .dict [(.int i, .none)]
def dScript (ns : List Int) : D := .dict [(.none, .list (ns.map .int))]
/-- a tuple of ints that is known to be a plain one: its methods may be asked -/
def dX (ns : List Int) : D := .dict [(.bool true, .tuple (ns.map .int))]
def norm : D → D
  | .dict [(.bool true, .tuple xs)] => .tuple xs
  | d => d
def plain : D → Bool
  | .dict _ => false
  | _ => true
def isLst : D → Bool
  | .list _ => true
  | _ => false
/-- the size line of the library -/
def zL : Nat := 1000000

mutual
def eqd : D → D → Bool
  | .none, .none => true
  | .bool a, .bool b => a == b
  | .bool a, .int j => (if a then 1 else 0) == j
  | .int i, .bool b => i == (if b then 1 else 0)
  | .int i, .int j => i == j
  | .str x, .str y => x == y
  | .list xs, .list ys => eqdAll xs ys
  | .tuple xs, .tuple ys => eqdAll xs ys
  | _, _ => false
def eqdAll : List D → List D → Bool
  | [], [] => true
  | x :: xs, y :: ys => eqd x y && eqdAll xs ys
  | _, _ => false
end
/-- shallow: nested at most n deep, no dict -/
def shal : Nat → D → Bool
  | _, .none => true
  | _, .bool _ => true
  | _, .int _ => true
  | _, .str _ => true
  | 0, _ => false
  | n + 1, .list ds => ds.all (shal n)
  | n + 1, .tuple ds => ds.all (shal n)
  | _, .dict _ => false

/-- the place of an index -/
def ixAt (n : Nat) (i : Int) : Option Nat :=
  if 0 ≤ i then (if i < n then some i.toNat else none) else if -(n : Int) ≤ i then some (i + n).toNat else none
def clip (n : Nat) (dflt : Nat) : Option Int → Nat
  | none => dflt
  | some i => if i < 0 then (i + (n : Int)).toNat else min i.toNat n
def cut {α : Type} (xs : List α) (lo hi : Option Int) : List α :=
  (xs.drop (clip xs.length 0 lo)).take (clip xs.length xs.length hi - clip xs.length 0 lo)


/-! ### the order of sorted -/
mutual
def kt : D → List (Int ⊕ List Nat)
  | .none => []
  | .bool b => [.inl (if b = true then 1 else 0)]
  | .int n => [.inl n]
  | .str x => [.inr x.cps.toList]
  | .list xs => ktAll xs
  | .tuple xs => ktAll xs
  | .dict _ => []
def ktAll : List D → List (Int ⊕ List Nat)
  | [] => [.inl 0]
  | x :: xs => .inl 1 :: (kt x ++ ktAll xs)
end
def ltI : Int ⊕ List Nat → Int ⊕ List Nat → Bool
  | .inl a, .inl b => decide (a < b)
  | .inl _, .inr _ => true
  | .inr _, .inl _ => false
  | .inr a, .inr b => decide (a < b)
def ltK : List (Int ⊕ List Nat) → List (Int ⊕ List Nat) → Bool
  | [], [] => false
  | [], _ :: _ => true
  | _ :: _, [] => false
  | x :: r, y :: t => ltI x y || (!ltI y x && ltK r t)
def ltd (x y : D) : Bool := ltK (kt x) (kt y)
def led (x y : D) : Bool := !ltd y x
mutual
def alk : D → D → Bool
  | .none, .none => true
  | .bool _, .bool _ => true
  | .int _, .int _ => true
  | .str _, .str _ => true
  | .list xs, .list ys => alkAll xs ys
  | .tuple xs, .tuple ys => alkAll xs ys
  | _, _ => false
def alkAll : List D → List D → Bool
  | x :: xs, y :: ys => alk x y && alkAll xs ys
  | [], _ => true
  | _ :: _, [] => true
end
def tup1 : D → Bool
  | .tuple (_ :: _) => true
  | _ => false
def noTN : D → Bool
  | .none => false
  | .tuple _ => false
  | _ => true
def srtOk (ds : List D) : Bool := ds.all (fun a => ds.all (alk a)) && (ds.all tup1 || ds.all noTN) && ds.all (shal 8) && decide (ds.length ≤ zL)
def ins {α : Type} (le : α → α → Bool) (x : α) : List α → List α
  | [] => [x]
  | y :: ys => if le x y then x :: y :: ys else y :: ins le x ys
def isort {α : Type} (le : α → α → Bool) : List α → List α
  | [] => []
  | x :: xs => ins le x (isort le xs)
def dedup (ds : List D) : List D := ds.foldl (fun acc d => if acc.any (eqd d) then acc else acc ++ [d]) []

/-! ### what is done at once: all arguments are values -/
inductive Pr where
  | add | sub | mul | fdiv | mod | pow | neg
  | eq | ne | lt | le | gt | ge | isin | notin | isN | notN
  | ix | sl0 | slL | slH | slB | rev
  | len | tuple | list | sorted | sortedT | sum | max1 | max2 | min1 | min2 | str | int
  | isInt | isBool | isTuple | isStr
  | tup | lst | tuplex | index | count | join | split | rng1 | rng2 | sset

def items : D → Option (List D)
  | .list ds => some ds
  | .tuple ds => some ds
  | _ => none
def small (i : Int) : Bool := decide (-(2 ^ 64) < i) && decide (i < 2 ^ 64)
def truth : D → Option Bool
  | .none => some false
  | .bool b => some b
  | .int i => some (i != 0)
  | .str x => if x.length ≤ zL then some ((x.length : Int) != 0) else none
  | .list ds => some (!ds.isEmpty)
  | .tuple ds => some (!ds.isEmpty)
  | .dict _ => none
def rangeD (lo hi : Int) : List D := (List.range (hi - lo).toNat).map fun i => .int (lo + (i : Nat))
def inR (i : Int) : Bool := decide (-(2 ^ 62) ≤ i) && decide (i < 2 ^ 62)
def eqOk (a b : D) : Bool := plain a && plain b && (shal 8 a || shal 8 b)
def addP : D → D → Option D
  | .int i, .int j => some (.int (i + j))
  | .str x, .str y => if x.length + y.length ≤ zL then some (.str (x ++ y)) else none
  | .tuple xs, .tuple ys => if xs.length + ys.length ≤ zL then some (.tuple (xs ++ ys)) else none
  | .list xs, .list ys => if xs.length + ys.length ≤ zL then some (.list (xs ++ ys)) else none
  | _, _ => none
def mulP : D → D → Option D
  | .int i, .int j => if small i || small j then some (.int (i * j)) else none
  | .list xs, .int k => if 0 ≤ k ∧ k ≤ 1000 ∧ xs.length ≤ 1000 then some (.list (List.replicate k.toNat xs).flatten) else none
  | .tuple xs, .int k => if 1 ≤ k ∧ k ≤ 1000 ∧ xs.length ≤ 1000 ∧ xs ≠ [] then some (.tuple (List.replicate k.toNat xs).flatten) else none
  | _, _ => none
def ixP : D → D → Option D
  | .list xs, .int i => (ixAt xs.length i).bind fun j => xs[j]?
  | .tuple xs, .int i => (ixAt xs.length i).bind fun j => xs[j]?
  | .str x, .int i => if x.length ≤ zL then (ixAt x.cps.toList.length i).bind fun j => (x.cps.toList[j]?).map fun c => .str ⟨#[c]⟩ else none
  | .dict [(.none, .list xs)], .int i => (ixAt xs.length i).bind fun j => xs[j]?
  | .dict [(.bool true, .tuple xs)], .int i => (ixAt xs.length i).bind fun j => xs[j]?
  | _, _ => none
def slP (d : D) (lo hi : Option Int) : Option D := match d with
  | .list xs => some (.list (cut xs lo hi))
  | .tuple xs => some (.tuple (cut xs lo hi))
  | .str x => if x.length ≤ zL then some (.str ⟨(cut x.cps.toList lo hi).toArray⟩) else none
  | _ => none
def lenP : D → Option D
  | .list xs => some (.int xs.length)
  | .tuple xs => some (.int xs.length)
  | .str x => if x.length ≤ zL then some (.int x.length) else none
  | .dict [(.none, .list xs)] => some (.int xs.length)
  | _ => none
def cmpP (f : Int → Int → Bool) : D → D → Option D
  | .int i, .int j => some (.bool (f i j))
  | _, _ => none
def inP (x y : D) : Option Bool := match y with
  | .list ys => if eqOk x y then some (ys.any fun z => eqd z x) else none
  | .tuple ys => if eqOk x y then some (ys.any fun z => eqd z x) else none
  | .str z => (match x with
    | .str y => (match y.cps.toList with
      | [c] => some (decide (c ∈ z.cps.toList))
      | _ => none)
    | _ => none)
  | _ => none
def sumI : List D → Option Int
  | [] => some 0
  | .int i :: r => (sumI r).map (i + ·)
  | _ => none
def intsOf : List D → Option (List Int)
  | [] => some []
  | .int i :: r => (intsOf r).map (i :: ·)
  | _ => none
theorem intsOf_some : ∀ {ds : List D} {ns : List Int}, intsOf ds = some ns → ds = ns.map .int
  | [], _, h => by cases h; rfl
  | .int i :: r, ns, h => by
    unfold intsOf at h
    rw [Option.map_eq_some_iff] at h
    obtain ⟨ms, h1, rfl⟩ := h
    rw [intsOf_some h1]; rfl
  | .none :: _, _, h => by cases h
  | .bool _ :: _, _, h => by cases h
  | .str _ :: _, _, h => by cases h
  | .list _ :: _, _, h => by cases h
  | .tuple _ :: _, _, h => by cases h
  | .dict _ :: _, _, h => by cases h
theorem intsOf_map : ∀ ns : List Int, intsOf (ns.map PyData.int) = some ns
  | [] => rfl
  | n :: ns => by rw [List.map_cons, intsOf, intsOf_map ns]; rfl
def strsOf : List D → Option (List Str)
  | [] => some []
  | .str x :: r => (strsOf r).map (x :: ·)
  | _ => none
def findIx (p : D → Bool) : List D → Option Nat
  | [] => none
  | x :: r => if p x then some 0 else (findIx p r).map (· + 1)
def joinS (sep : List Nat) : List (List Nat) → List Nat
  | [] => []
  | [x] => x
  | x :: r => x ++ sep ++ joinS sep r
/-- split at each sign c -/
def splitS (c : Nat) : List Nat → List (List Nat)
  | [] => [[]]
  | x :: r => if x = c then [] :: splitS c r else match splitS c r with
    | [] => [[x]]
    | p :: q => (x :: p) :: q
/-- the figures of an int of one or more digits -/
def strI (i : Int) : Str := Str.ofString (toString i)
def maxI : List Int → Option Int
  | [] => none
  | [x] => some x
  | x :: r => (maxI r).map fun m => if m > x then m else x
def sumLen (xs : List Str) : Nat := (xs.map (·.length)).sum

def subP : D → D → Option D
  | .int i, .int j => some (.int (i - j))
  | _, _ => none
def fdivP : D → D → Option D
  | .int i, .int j => if 0 < j ∧ j < 1073741824 then some (.int (i / j)) else none
  | _, _ => none
def modP : D → D → Option D
  | .int i, .int j => if 0 < j then some (.int (i % j)) else none
  | _, _ => none
def powP : D → D → Option D
  | .int i, .int j => if 0 ≤ j ∧ j ≤ 1000 ∧ small i = true then some (.int (i ^ j.toNat)) else none
  | _, _ => none
def negP : D → Option D
  | .int i => some (.int (-i))
  | _ => none
def eqP (a b : D) : Option D := if eqOk (norm a) (norm b) then some (.bool (eqd (norm a) (norm b))) else none
def neP (a b : D) : Option D := if eqOk (norm a) (norm b) then some (.bool (!eqd (norm a) (norm b))) else none
def isNone : D → Bool
  | .none => true
  | _ => false
def isInt : D → Bool
  | .int _ => true
  | .bool _ => true
  | _ => false
def isBool : D → Bool
  | .bool _ => true
  | _ => false
def isTup : D → Bool
  | .tuple _ => true
  | _ => false
def isStr : D → Bool
  | .str _ => true
  | _ => false
def tstP (f : D → Bool) (d : D) : Option D := if plain d then some (.bool (f d)) else none
def slL : D → D → Option D
  | d, .int i => slP d (some i) none
  | _, _ => none
def slH : D → D → Option D
  | d, .int i => slP d none (some i)
  | _, _ => none
def slB : D → D → D → Option D
  | d, .int i, .int j => slP d (some i) (some j)
  | _, _, _ => none
def revP : D → Option D
  | .tuple xs => some (.tuple xs.reverse)
  | .list xs => some (.list xs.reverse)
  | _ => none
def sortedP : D → Option D
  | .list ds => if srtOk ds then some (.list (isort led ds)) else none
  | _ => none
/-- the elements by a key, ascending, each key once -/
def insU {α : Type} (key : α → Int) (x : α) : List α → List α
  | [] => [x]
  | y :: ys => if key x < key y then x :: y :: ys else if key x = key y then y :: ys else y :: insU key x ys
def usort {α : Type} (key : α → Int) : List α → List α
  | [] => []
  | x :: xs => insU key x (usort key xs)
def prsOf : List D → Option (List (Int × Int))
  | [] => some []
  | .tuple [.int a, .int b] :: r => (prsOf r).map ((a, b) :: ·)
  | _ => none
def dPr (p : Int × Int) : D := .tuple [.int p.1, .int p.2]
def prKey (p : Int × Int) : Int := p.1 * 64 + p.2
def prOk (p : Int × Int) : Bool := decide (0 ≤ p.1 ∧ p.1 < 64 ∧ 0 ≤ p.2 ∧ p.2 < 64)
def sortedTP : D → Option D
  | .tuple ds => if srtOk ds then some (.list (isort led ds)) else none
  | _ => none
def ssetP : D → Option D
  | .list ds => match intsOf ds with
    | some ns => if ns.length < 64 then some (.list ((usort id ns).map .int)) else none
    | none => match prsOf ds with
      | some ps => if ps.length < 64 ∧ ps.all prOk = true then some (.list ((usort prKey ps).map dPr)) else none
      | none => none
  | _ => none
def sumP (d : D) : Option D := (items d).bind fun ds => (sumI ds).map .int
def max1P : D → Option D
  | .list ds => (intsOf ds).bind fun ns => (maxI ns).map .int
  | _ => none
def minF (x : D) (xs : List D) : D := xs.foldl (fun a y => if ltd y a then y else a) x
def min1P : D → Option D
  | .list (x :: xs) => if srtOk (x :: xs) then some (minF x xs) else none
  | _ => none
def max2P : D → D → Option D
  | .int i, .int j => some (.int (if j > i then j else i))
  | _, _ => none
def min2P : D → D → Option D
  | .int i, .int j => some (.int (if j < i then j else i))
  | _, _ => none
def strP : D → Option D
  | .int i => if small i then some (.str (strI i)) else none
  | .str x => some (.str x)
  | _ => none
def intP : D → Option D
  | .bool b => some (.int (if b then 1 else 0))
  | _ => none
def tupxP : D → Option D
  | .list ds => (intsOf ds).map dX
  | _ => none
def tupP (ds : List D) : Option D := if ds.all plain && decide (ds.length ≤ zL) then some (.tuple ds) else none
def lstP (ds : List D) : Option D := if ds.all plain && decide (ds.length ≤ zL) then some (.list ds) else none
/-- the one sign of a text -/
def sign? (x : Str) : Option Nat := match x.cps.toList with
  | [c] => some c
  | _ => none
def indexP : D → D → Option D
  | .dict [(.bool true, .tuple xs)], .int i => (intsOf xs).bind fun ns => (ns.findIdx? (· == i)).map fun j => .int (j : Nat)
  | .str x, .str y => (sign? y).bind fun c => (x.cps.toList.findIdx? (· == c)).map fun j => .int (j : Nat)
  | _, _ => none
def countP : D → D → Option D
  | .list xs, .int i => (intsOf xs).map fun ns => .int ((ns.filter (· == i)).length : Nat)
  | _, _ => none
def joinP : D → D → Option D
  | .str s, .list xs => (strsOf xs).bind fun ys => if sumLen ys + ys.length * s.length ≤ zL then some (.str (Str.join s ys)) else none
  | _, _ => none
def splitP : D → D → Option D
  | .str x, .str y => (sign? y).bind fun c => if x.length ≤ zL then some (.list ((splitS c x.cps.toList).map fun l => .str ⟨l.toArray⟩)) else none
  | _, _ => none
/-- the pieces of an f-string: texts and ints -/
def fpiece : D → Option Str
  | .str x => if x.length ≤ zL then some x else none
  | .int i => if small i then some (strI i) else none
  | _ => none
def rng1P : D → Option D
  | .int j => if inR j && decide (j ≤ zL) then some (.list (rangeD 0 j)) else none
  | _ => none
def rng2P : D → D → Option D
  | .int i, .int j => if inR i && inR j && decide (j - i ≤ zL) then some (.list (rangeD i j)) else none
  | _, _ => none
def p1 (f : D → Option D) : List D → Option D
  | [a] => f a
  | _ => none
def p2 (f : D → D → Option D) : List D → Option D
  | [a, b] => f a b
  | _ => none
def p3 (f : D → D → D → Option D) : List D → Option D
  | [a, b, c] => f a b c
  | _ => none
def prim : Pr → List D → Option D
  | .add => p2 addP
  | .sub => p2 subP
  | .mul => p2 mulP
  | .fdiv => p2 fdivP
  | .mod => p2 modP
  | .pow => p2 powP
  | .neg => p1 negP
  | .eq => p2 eqP
  | .ne => p2 neP
  | .lt => p2 (cmpP fun i j => decide (i < j))
  | .le => p2 (cmpP fun i j => decide (i ≤ j))
  | .gt => p2 (cmpP fun i j => decide (j < i))
  | .ge => p2 (cmpP fun i j => decide (j ≤ i))
  | .isin => p2 fun x y => (inP x y).map .bool
  | .notin => p2 fun x y => (inP x y).map fun b => .bool (!b)
  | .isN => p1 (tstP isNone)
  | .notN => p1 (tstP fun d => !isNone d)
  | .ix => p2 ixP
  | .sl0 => p1 fun d => slP d none none
  | .slL => p2 slL
  | .slH => p2 slH
  | .slB => p3 slB
  | .rev => p1 revP
  | .len => p1 lenP
  | .tuple => p1 fun d => (items d).map .tuple
  | .list => p1 fun d => (items d).map .list
  | .sorted => p1 sortedP
  | .sset => p1 ssetP
  | .sortedT => p1 sortedTP
  | .sum => p1 sumP
  | .max1 => p1 max1P
  | .max2 => p2 max2P
  | .min1 => p1 min1P
  | .min2 => p2 min2P
  | .str => p1 strP
  | .int => p1 intP
  | .isInt => p1 (tstP isInt)
  | .isBool => p1 (tstP isBool)
  | .isTuple => p1 (tstP isTup)
  | .isStr => p1 (tstP isStr)
  | .tup => tupP
  | .tuplex => p1 tupxP
  | .lst => lstP
  | .index => p2 indexP
  | .count => p2 countP
  | .join => p2 joinP
  | .split => p2 splitP
  | .rng1 => p1 rng1P
  | .rng2 => p2 rng2P

/-! ### expressions -/
def dVar (i : Nat) : Ex := fun _ r w => match r[i]? with
  | some (some d) => some (.val d, w)
  | _ => none
/-- a slot of a list that is changed in place: not the list itself -/
def dVarM (i : Nat) : Ex := fun _ r w => match r[i]? with
  | some (some d) => if isLst d then none else some (.val d, w)
  | _ => none
def dC (d : D) : Ex := fun _ _ w => some (.val d, w)
def dNil : Exs := fun _ _ w => some (.vals [], w)
def dCons (e : Ex) (es : Exs) : Exs := fun c r w => match e c r w with
  | none => none
  | some (.exc x, w1) => some (.exc x, w1)
  | some (.val d, w1) => match es c r w1 with
    | none => none
    | some (.exc x, w2) => some (.exc x, w2)
    | some (.vals ds, w2) => some (.vals (d :: ds), w2)
def dPrim (p : Pr) (es : Exs) : Ex := fun c r w => match es c r w with
  | none => none
  | some (.exc x, w1) => some (.exc x, w1)
  | some (.vals ds, w1) => (prim p ds).map fun d => (.val d, w1)
def dIte (t a b : Ex) : Ex := fun c r w => match t c r w with
  | none => none
  | some (.exc x, w1) => some (.exc x, w1)
  | some (.val d, w1) => match truth d with
    | none => none
    | some true => a c r w1
    | some false => b c r w1
/-- x and y, x or y, as values -/
def dAnd (a b : Ex) : Ex := fun c r w => match a c r w with
  | none => none
  | some (.exc x, w1) => some (.exc x, w1)
  | some (.val d, w1) => match truth d with
    | none => none
    | some true => b c r w1
    | some false => some (.val d, w1)
def dOr (a b : Ex) : Ex := fun c r w => match a c r w with
  | none => none
  | some (.exc x, w1) => some (.exc x, w1)
  | some (.val d, w1) => match truth d with
    | none => none
    | some true => some (.val d, w1)
    | some false => b c r w1
def dNot (a : Ex) : Ex := fun c r w => match a c r w with
  | none => none
  | some (.exc x, w1) => some (.exc x, w1)
  | some (.val d, w1) => (truth d).map fun b => (.val (.bool (!b)), w1)
/-- a op b op' c -/
def dChain (p q : Pr) (a b e : Ex) : Ex := fun c r w => match a c r w with
  | none => none
  | some (.exc x, w1) => some (.exc x, w1)
  | some (.val da, w1) => match b c r w1 with
    | none => none
    | some (.exc x, w2) => some (.exc x, w2)
    | some (.val db, w2) => match prim p [da, db] with
      | some (.bool true) => (match e c r w2 with
        | none => none
        | some (.exc x, w3) => some (.exc x, w3)
        | some (.val de, w3) => (prim q [db, de]).map fun d => (.val d, w3))
      | some (.bool false) => some (.val (.bool false), w2)
      | _ => none
def dCall (f : Nat) (es : Exs) : Ex := fun c r w => match es c r w with
  | none => none
  | some (.exc x, w1) => some (.exc x, w1)
  | some (.vals ds, w1) => c f ds w1

def isX : D → Bool
  | .dict [(.bool true, .tuple _)] => true
  | _ => false
/-- a.m(b): what a is, is asked ahead of b -/
def dMeth (p : Pr) (ok : D → Bool) (a b : Ex) : Ex := fun c r w => match a c r w with
  | none => none
  | some (.exc x, w1) => some (.exc x, w1)
  | some (.val d, w1) => if ok d = true then (match b c r w1 with
    | none => none
    | some (.exc x, w2) => some (.exc x, w2)
    | some (.val e, w2) => (prim p [d, e]).map fun v => (.val v, w2)) else none
/-- f"{a}t{b}" -/
def dFstr (a : Ex) (t : Str) (b : Ex) : Ex := fun c r w => match a c r w with
  | none => none
  | some (.exc x, w1) => some (.exc x, w1)
  | some (.val d, w1) => match fpiece d with
    | none => none
    | some x => if (Str.empty ++ x).length ≤ zL ∧ ((Str.empty ++ x) ++ t).length ≤ zL then (match b c r w1 with
      | none => none
      | some (.exc y, w2) => some (.exc y, w2)
      | some (.val e, w2) => match fpiece e with
        | none => none
        | some z => if (((Str.empty ++ x) ++ t) ++ z).length ≤ zL then some (.val (.str (((Str.empty ++ x) ++ t) ++ z)), w2) else none) else none
/-! ### sources of items, targets -/
def iSeq (e : Ex) : Exs := fun c r w => match e c r w with
  | none => none
  | some (.exc x, w1) => some (.exc x, w1)
  | some (.val d, w1) => (items d).map fun ds => (.vals ds, w1)
def iRng (es : Exs) : Exs := fun c r w => match es c r w with
  | some (.vals [.int j], w1) => if inR j then some (.vals (rangeD 0 j), w1) else none
  | some (.vals [.int i, .int j], w1) => if inR i && inR j then some (.vals (rangeD i j), w1) else none
  | some (.exc x, w1) => some (.exc x, w1)
  | _ => none
def enumD (ds : List D) : List D := (List.range ds.length).zipWith (fun i d => .tuple [.int (i : Nat), d]) ds
def iEnum (e : Ex) : Exs := fun c r w => match e c r w with
  | none => none
  | some (.exc x, w1) => some (.exc x, w1)
  | some (.val d, w1) => (items d).map fun ds => (.vals (enumD ds), w1)
def iZip (es : Exs) : Exs := fun c r w => match es c r w with
  | some (.vals [.tuple a, .tuple b], w1) => some (.vals (List.zipWith (fun x y => .tuple [x, y]) a b), w1)
  | some (.exc x, w1) => some (.exc x, w1)
  | _ => none
inductive Tg where
  | nm (i : Nat)
  | tp (ts : List Tg)
mutual
def bindT : Tg → D → Env → Option Env
  | .nm i, d, r => some (r.set i (some d))
  | .tp ts, .tuple ds, r => bindTs ts ds r
  | .tp _, _, _ => none
def bindTs : List Tg → List D → Env → Option Env
  | [], [], r => some r
  | t :: ts, d :: ds, r => (bindT t d r).bind (bindTs ts ds)
  | _, _, _ => none
end
def wipeR (r : Env) : List Nat → Env
  | [] => r
  | v :: vs => (wipeR r vs).set v none
/-- the turns of a comprehension: no exception comes out -/
def compGo (c : Cf) (r : Env) (tg : Tg) (cond : Option Ex) (elt : Cf → Env → Om → Option (List D × Om)) : List D → Om → Option (List D × Om)
  | [], w => some ([], w)
  | x :: xs, w => match bindT tg x r with
    | none => none
    | some r1 => match (match cond with
        | none => some (true, w)
        | some t => (match t c r1 w with
          | some (.val d, w1) => (truth d).map fun b => (b, w1)
          | _ => none)) with
      | none => none
      | some (false, w1) => compGo c r tg cond elt xs w1
      | some (true, w1) => match elt c r1 w1 with
        | none => none
        | some (ys, w2) => (compGo c r tg cond elt xs w2).map fun (zs, w3) => (ys ++ zs, w3)
def one (e : Ex) : Cf → Env → Om → Option (List D × Om) := fun c r w => match e c r w with
  | some (.val d, w1) => if plain d then some ([d], w1) else none
  | _ => none
def dComp (src : Exs) (tg : Tg) (cond : Option Ex) (elt : Ex) (own : List Nat) : Ex := fun c r w => match src c r w with
  | none => none
  | some (.exc x, w1) => some (.exc x, w1)
  | some (.vals xs, w1) => match compGo c (wipeR r own) tg cond (one elt) xs w1 with
    | none => none
    | some (ys, w2) => if ys.length ≤ zL then some (.val (.list ys), w2) else none
def inner (src : Exs) (tg : Tg) (elt : Ex) (own : List Nat) : Cf → Env → Om → Option (List D × Om) := fun c r w => match src c r w with
  | some (.vals xs, w1) => compGo c (wipeR r own) tg none (one elt) xs w1
  | _ => none
/-- two fors, without tests -/
def dComp2 (src : Exs) (tg : Tg) (src2 : Exs) (tg2 : Tg) (elt : Ex) (own own2 : List Nat) : Ex := fun c r w => match src c r w with
  | none => none
  | some (.exc x, w1) => some (.exc x, w1)
  | some (.vals xs, w1) => match compGo c (wipeR r own) tg none (inner src2 tg2 elt own2) xs w1 with
    | none => none
    | some (ys, w2) => if ys.length ≤ zL then some (.val (.list ys), w2) else none

/-! ### statements -/
def sPass : Sx := fun _ r w => some (.next r, w)
def sSeq (a b : Sx) : Sx := fun c r w => match a c r w with
  | none => none
  | some (.next r1, w1) => b c r1 w1
  | some (.ret d, w1) => some (.ret d, w1)
  | some (.exc x r1, w1) => some (.exc x r1, w1)
def sIf (t : Ex) (a b : Sx) : Sx := fun c r w => match t c r w with
  | none => none
  | some (.exc x, w1) => some (.exc x r, w1)
  | some (.val d, w1) => match truth d with
    | none => none
    | some true => a c r w1
    | some false => b c r w1
def sRet (e : Ex) : Sx := fun c r w => match e c r w with
  | none => none
  | some (.exc x, w1) => some (.exc x r, w1)
  | some (.val d, w1) => some (.ret d, w1)
def sExpr (e : Ex) : Sx := fun c r w => match e c r w with
  | none => none
  | some (.exc x, w1) => some (.exc x r, w1)
  | some (.val _, w1) => some (.next r, w1)
def sAsg (i : Nat) (e : Ex) : Sx := fun c r w => match e c r w with
  | none => none
  | some (.exc x, w1) => some (.exc x r, w1)
  | some (.val d, w1) => some (.next (r.set i (some d)), w1)
/-- into a slot of a list that is changed in place: anything but a list -/
def sAsgN (i : Nat) (e : Ex) : Sx := fun c r w => match e c r w with
  | none => none
  | some (.exc x, w1) => some (.exc x r, w1)
  | some (.val d, w1) => if isLst d then none else some (.next (r.set i (some d)), w1)
/-- a, b = x, y -/
def setAll : List Nat → List D → Env → Option Env
  | [], [], r => some r
  | i :: is, d :: ds, r => setAll is ds (r.set i (some d))
  | _, _, _ => none
def sPar (is : List Nat) (es : Exs) : Sx := fun c r w => match es c r w with
  | none => none
  | some (.exc x, w1) => some (.exc x r, w1)
  | some (.vals ds, w1) => (setAll is ds r).map fun r1 => (.next r1, w1)
/-- (a, (b, c)) = e -/
def sAsgT (t : Tg) (e : Ex) : Sx := fun c r w => match e c r w with
  | none => none
  | some (.exc x, w1) => some (.exc x r, w1)
  | some (.val d, w1) => (bindT t d r).map fun r1 => (.next r1, w1)
def sAug (i : Nat) (p : Pr) (e : Ex) : Sx := fun c r w => match r[i]? with
  | some (some (.int a)) => (match e c r w with
    | none => none
    | some (.exc x, w1) => some (.exc x r, w1)
    | some (.val (.int b), w1) => (prim p [.int a, .int b]).map fun d => (.next (r.set i (some d)), w1)
    | some (.val _, _) => none)
  | _ => none
def sAppend (i : Nat) (e : Ex) : Sx := fun c r w => match r[i]? with
  | some (some (.list ds)) => (match e c r w with
    | none => none
    | some (.exc x, w1) => some (.exc x r, w1)
    | some (.val d, w1) => if plain d && decide (ds.length < zL) then some (.next (r.set i (some (.list (ds ++ [d])))), w1) else none)
  | _ => none
/-- x.append(y), y a list that was changed in place: it is y no more -/
def sAppendMv (i j : Nat) : Sx := fun _ r w => match r[i]?, r[j]? with
  | some (some (.list ds)), some (some d) => if isLst d && decide (ds.length < zL) && decide (i ≠ j) then some (.next ((r.set i (some (.list (ds ++ [d])))).set j none), w) else none
  | _, _ => none
def sExtend (i : Nat) (e : Ex) : Sx := fun c r w => match r[i]? with
  | some (some (.list ds)) => (match e c r w with
    | none => none
    | some (.exc x, w1) => some (.exc x r, w1)
    | some (.val (.list zs), w1) => if ds.length + zs.length ≤ zL then some (.next (r.set i (some (.list (ds ++ zs)))), w1) else none
    | some (.val _, _) => none)
  | _ => none
/-- x[k] = e -/
def sSetIx (i : Nat) (k e : Ex) : Sx := fun c r w => match e c r w with
  | none => none
  | some (.exc x, w1) => some (.exc x r, w1)
  | some (.val d, w1) => match r[i]? with
    | some (some (.list ds)) => (match k c r w1 with
      | none => none
      | some (.exc x, w2) => some (.exc x r, w2)
      | some (.val (.int n), w2) => if plain d then (ixAt ds.length n).map fun j => (.next (r.set i (some (.list (ds.set j d)))), w2) else none
      | some (.val _, _) => none)
    | _ => none
/-- y = x.pop(0) -/
def sPop0 (y i : Nat) : Sx := fun _ r w => match r[i]? with
  | some (some (.list (d :: ds))) => if y ≠ i then some (.next ((r.set i (some (.list ds))).set y (some d)), w) else none
  | _ => none
def forGo (c : Cf) (tg : Tg) (body : Sx) : List D → Env → Om → Option (Out × Om)
  | [], r, w => some (.next r, w)
  | x :: xs, r, w => match bindT tg x r with
    | none => none
    | some r1 => match body c r1 w with
      | none => none
      | some (.next r2, w2) => forGo c tg body xs r2 w2
      | some (.ret d, w2) => some (.ret d, w2)
      | some (.exc x r2, w2) => some (.exc x r2, w2)
def sFor (src : Exs) (tg : Tg) (body : Sx) : Sx := fun c r w => match src c r w with
  | none => none
  | some (.exc x, w1) => some (.exc x r, w1)
  | some (.vals xs, w1) => forGo c tg body xs r w1
def whileGo (c : Cf) (t : Ex) (body : Sx) : Nat → Env → Om → Option (Out × Om)
  | 0, _, _ => none
  | n + 1, r, w => match t c r w with
    | none => none
    | some (.exc x, w1) => some (.exc x r, w1)
    | some (.val d, w1) => match truth d with
      | none => none
      | some false => some (.next r, w1)
      | some true => match body c r w1 with
        | none => none
        | some (.next r2, w2) => whileGo c t body n r2 w2
        | some (.ret d, w2) => some (.ret d, w2)
        | some (.exc x r2, w2) => some (.exc x r2, w2)
def sWhile (n : Nat) (t : Ex) (body : Sx) : Sx := fun c r w => whileGo c t body n r w
/-- raise a class without a field -/
def sRaise (k : Nat) : Sx := fun _ r w => some (.exc ⟨k, .none⟩ r, w)
/-- is class c one of class k: 0 is the base of all -/
def subX (c k : Nat) : Bool := c == k || k == 0
/-- except clauses: the class, what is given back for a caught one -/
def hGo (x : Xn) (r : Env) (w : Om) : List (Nat × (Xn → Option D)) → Option (Out × Om)
  | [] => some (.exc x r, w)
  | (k, g) :: hs => if subX x.cls k then (g x).map fun d => (.ret d, w) else hGo x r w hs
def sTry (body : Sx) (hs : List (Nat × (Xn → Option D))) : Sx := fun c r w => match body c r w with
  | none => none
  | some (.exc x r1, w1) => hGo x r1 w1 hs
  | some (.next r1, w1) => some (.next r1, w1)
  | some (.ret d, w1) => some (.ret d, w1)

/-- what has no rule: no word about it -/
def sStuck : Sx := fun _ _ _ => none
/-- try with one clause `except k as e` (slot i) whose suite goes on -/
def sTryE (body : Sx) (k i : Nat) (su : Xn → Sx) : Sx := fun c r w => match body c r w with
  | none => none
  | some (.exc x r1, w1) => if subX x.cls k then (if i < r1.length then (match su x c (r1.set i none) w1 with
      | some (.next r2, w2) => some (.next (r2.set i none), w2)
      | _ => none) else none) else some (.exc x r1, w1)
  | some (.next r1, w1) => some (.next r1, w1)
  | some (.ret d, w1) => some (.ret d, w1)

/-! ### defs -/
structure Fd where
  params : Nat
  slots : Nat
  body : Sx
abbrev Tb := Nat → Option Fd
def fin : Option (Out × Om) → Option (R × Om)
  | none => none
  | some (.next _, w) => some (.val .none, w)
  | some (.ret d, w) => some (.val d, w)
  | some (.exc x _, w) => some (.exc x, w)
def run (T : Tb) : Nat → Cf
  | 0, _, _, _ => none
  | n + 1, f, ds, w => match T f with
    | none => none
    | some F => if ds.length = F.params ∧ F.params ≤ F.slots then fin (F.body (run T n) (ds.map some ++ List.replicate (F.slots - F.params) none) w) else none
end Rx

set_option linter.all false
/-! RxP1: worker objects; an exception with a line. -/
namespace Rx
open PySem
/-- the number of a worker -/
def isO : D → Option Nat
  | .dict [(.int i, .none)] => if 0 ≤ i then some i.toNat else none
  | _ => none
theorem isO_obj (i : Nat) : isO (dObj i) = some i := by
  unfold isO dObj
  simp
theorem isO_eq {d : D} {i : Nat} (h : isO d = some i) : d = dObj i := by
  unfold isO at h
  split at h
  · rename_i j
    split at h
    · rename_i hj
      cases h
      unfold dObj
      rw [Int.toNat_of_nonneg hj]
    · cases h
  · cases h
def putD (f : Str) (d : D) : Fs → Fs
  | [] => [(f, d)]
  | (g, x) :: r => if g = f then (g, d) :: r else (g, x) :: putD f d r
/-- o.f -/
def dFld (o : Ex) (f : Str) : Ex := fun c r w => match o c r w with
  | none => none
  | some (.exc x, w1) => some (.exc x, w1)
  | some (.val d, w1) => match isO d with
    | none => none
    | some i => match w1[i]? with
      | none => none
      | some fs => (fs.lookup f).map fun v => (.val v, w1)
/-- o.f = e -/
def sFld (o : Ex) (f : Str) (e : Ex) : Sx := fun c r w => match e c r w with
  | none => none
  | some (.exc x, w1) => some (.exc x r, w1)
  | some (.val d, w1) => match o c r w1 with
    | none => none
    | some (.exc x, w2) => some (.exc x r, w2)
    | some (.val b, w2) => match isO b with
      | none => none
      | some i => match w2[i]? with
        | none => none
        | some fs => if plain d = true ∧ fs.length < 100 then some (.next r, w2.set i (putD f d fs)) else none
/-- C(..): a new worker, then its __init__ -/
def dMk (fid : Nat) (es : Exs) : Ex := fun c r w => match es c r w with
  | none => none
  | some (.exc x, w1) => some (.exc x, w1)
  | some (.vals ds, w1) => match c fid (dObj w1.length :: ds) (w1 ++ [[]]) with
    | none => none
    | some (.exc x, w2) => some (.exc x, w2)
    | some (.val d, w2) => if isNone d = true then some (.val (dObj w1.length), w2) else none
/-- o.m(..) -/
def dMt (fid : Nat) (m : Str) (o : Ex) (es : Exs) : Ex := fun c r w => match o c r w with
  | none => none
  | some (.exc x, w1) => some (.exc x, w1)
  | some (.val d, w1) => match isO d with
    | none => none
    | some i => match w1[i]? with
      | none => none
      | some fs => if (fs.lookup m).isNone = true then (match es c r w1 with
        | none => none
        | some (.exc x, w2) => some (.exc x, w2)
        | some (.vals ds, w2) => c fid (d :: ds) w2) else none
def isLenV : D → Bool
  | .int n => decide (0 ≤ n) && decide (n < 2 ^ 62)
  | _ => false
/-- len(o), str(o) by the class's own method: ok tells what it may give back -/
def dOwn (fid : Nat) (ok : D → Bool) (o : Ex) : Ex := fun c r w => match o c r w with
  | none => none
  | some (.exc x, w1) => some (.exc x, w1)
  | some (.val d, w1) => match isO d with
    | none => none
    | some _ => match c fid [d] w1 with
      | some (.val v, w2) => if ok v = true then some (.val v, w2) else none
      | _ => none
/-- is it a worker, a text, a tuple? -/
def cmpAble (d : D) : Bool := (isO d).isSome || isStr d || isTup d
/-- a == b, a != b by the class's own == -/
def dEqO (fid : Nat) (neg : Bool) (a b : Ex) : Ex := fun c r w => match a c r w with
  | none => none
  | some (.exc x, w1) => some (.exc x, w1)
  | some (.val d, w1) => match b c r w1 with
    | none => none
    | some (.exc x, w2) => some (.exc x, w2)
    | some (.val e, w2) => match isO d with
      | none => none
      | some _ => if cmpAble e = true then (match c fid [d, e] w2 with
        | some (.val (.bool t), w3) => some (.val (.bool (xor neg t)), w3)
        | _ => none) else none
/-- isinstance(e, C) -/
def dIsO (e : Ex) : Ex := fun c r w => match e c r w with
  | none => none
  | some (.exc x, w1) => some (.exc x, w1)
  | some (.val d, w1) => if cmpAble d = true then some (.val (.bool (isO d).isSome), w1) else none
/-- raise the exception with a line -/
def sRaiseL (e : Ex) : Sx := fun c r w => match e c r w with
  | none => none
  | some (.exc x, w1) => some (.exc x r, w1)
  | some (.val d, w1) => if plain d = true then some (.exc ⟨1, d⟩ r, w1) else none
end Rx
namespace Rx
open PySem
/-- the place of a figure among the figures -/
def digIx (x : Str) : Option Nat :=
  if x = "0" then some 0 else if x = "1" then some 1 else if x = "2" then some 2 else if x = "3" then some 3 else if x = "4" then some 4 else
  if x = "5" then some 5 else if x = "6" then some 6 else if x = "7" then some 7 else if x = "8" then some 8 else if x = "9" then some 9 else none
def sixP : D → D → Option D
  | .str a, .str b => if a = "0123456789" then (digIx b).map fun i => .int (i : Nat) else none
  | _, _ => none
/-- the pieces of a text between signs c -/
def splP : D → D → Option D
  | .str x, .str y => (sign? y).bind fun c => if c < 256 ∧ x.length ≤ zL then some (.list ((splitS c x.cps.toList).map fun l => .str ⟨l.toArray⟩)) else none
  | _, _ => none
/-- a.m(b), of texts -/
def dM2 (f : D → D → Option D) (a b : Ex) : Ex := fun c r w => match a c r w with
  | none => none
  | some (.exc x, w1) => some (.exc x, w1)
  | some (.val d, w1) => if isStr d = true then (match b c r w1 with
    | none => none
    | some (.exc x, w2) => some (.exc x, w2)
    | some (.val e, w2) => (f d e).map fun v => (.val v, w2)) else none
def dSix : Ex → Ex → Ex := dM2 sixP
def dSpl : Ex → Ex → Ex := dM2 splP
/-- a >= b, of pairs of ints -/
def geT : D → D → Option D
  | .tuple [.int a, .int b], .tuple [.int c, .int d] => some (.bool (if a = c then decide (d ≤ b) else decide (c ≤ a)))
  | _, _ => none
def dGeT (a b : Ex) : Ex := fun c r w => match dCons a (dCons b dNil) c r w with
  | none => none
  | some (.exc x, w1) => some (.exc x, w1)
  | some (.vals ds, w1) => (p2 geT ds).map fun v => (.val v, w1)
/-- what a caught exception is, class by class; its line if m is 8 -/
def sSix (x : Xn) (jf ju jl jm : Nat) (ks : List Nat) : Sx := fun _ r w => match r[jm]? with
  | some (some (.int m)) => if jf < r.length then
      (if m = 8 then (if x.cls = 1 then some (.next (((r.set jf (some (.list (ks.map fun k => .bool (subX x.cls k))))).set ju (some (.bool true))).set jl (some x.line)), w) else none)
      else some (.next (((r.set jf (some (.list (ks.map fun k => .bool (subX x.cls k))))).set ju (some (.bool true))).set jl (some (.str "none"))), w)) else none
  | _ => none
/-- sorted(set(t)), t a tuple of pairs of ints -/
def ssetT : D → Option D
  | .tuple ds => (prsOf ds).bind fun ps => if ps.length < 64 ∧ ps.all prOk = true then some (.list ((usort prKey ps).map dPr)) else none
  | _ => none
def dSst (a : Ex) : Ex := fun c r w => match a c r w with
  | none => none
  | some (.exc x, w1) => some (.exc x, w1)
  | some (.val d, w1) => (ssetT d).map fun v => (.val v, w1)
end Rx

set_option linter.all false
set_option autoImplicit false
/-! RxP2: sorted(set(xs)), xs an ascending list of rows (tuples of pairs of ints) no two of which hash alike. -/
namespace Rx
open PySem
def rwsOf : List D → Option (List (List (Int × Int)))
  | [] => some []
  | .tuple ds :: r => (prsOf ds).bind fun ps => (rwsOf r).map (ps :: ·)
  | _ => none
def dRow (r : List (Int × Int)) : D := .tuple (r.map dPr)
def prH (p : Int × Int) : Int := reduceHash (Builtin.Tuple.tupleHashOf [hashInt p.1, hashInt p.2])
/-- hash(row) -/
def rowH (r : List (Int × Int)) : Int := reduceHash (Builtin.Tuple.tupleHashOf (r.map prH))
def ndI : List Int → Bool
  | [] => true
  | x :: r => !r.contains x && ndI r
def strB : List D → Bool
  | x :: y :: r => !led y x && strB (y :: r)
  | _ => true
def sslP : D → Option D
  | .list ds => (rwsOf ds).bind fun rs => if (decide (rs.length ≤ 300) && (ndI (rs.map rowH) && (strB ds && srtOk ds))) = true then some (.list ds) else none
  | _ => none
def dSsl (a : Ex) : Ex := fun c r w => match a c r w with
  | none => none
  | some (.exc x, w1) => some (.exc x, w1)
  | some (.val d, w1) => (sslP d).map fun v => (.val v, w1)
end Rx

set_option linter.all false
set_option maxRecDepth 100000
set_option autoImplicit false
namespace Rx
open PySem
def b_in_range : Sx :=
  (sRet (dAnd (dPrim .isInt (dCons (dVar 0) dNil)) (dAnd (dNot (dPrim .isBool (dCons (dVar 0) dNil))) (dChain .le .le (dVar 1) (dVar 0) (dVar 2)))))
def b_check_size : Sx :=
  (sIf (dNot (dCall 1 (dCons (dVar 0) (dCons (dC (.int 2)) (dCons (dC (.int 6)) dNil)))))
    (sRaise 2)
    sPass)
def b_is_exchange : Sx :=
  (sSeq (sIf (dOr (dNot (dPrim .isTuple (dCons (dVar 1) dNil))) (dOr (dPrim .ne (dCons (dPrim .len (dCons (dVar 1) dNil)) (dCons (dC (.int 2)) dNil))) (dNot (dCall 1 (dCons (dPrim .ix (dCons (dVar 1) (dCons (dC (.int 0)) dNil))) (dCons (dC (.int 0)) (dCons (dPrim .sub (dCons (dVar 0) (dCons (dC (.int 1)) dNil))) dNil)))))))
    (sRet (dC (.bool false)))
    sPass)
    (sRet (dCall 1 (dCons (dPrim .ix (dCons (dVar 1) (dCons (dC (.int 1)) dNil))) (dCons (dPrim .add (dCons (dPrim .ix (dCons (dVar 1) (dCons (dC (.int 0)) dNil))) (dCons (dC (.int 1)) dNil))) (dCons (dPrim .sub (dCons (dVar 0) (dCons (dC (.int 1)) dNil))) dNil))))))
def b_are_exchanges : Sx :=
  (sSeq (sIf (dOr (dNot (dPrim .isTuple (dCons (dVar 1) dNil))) (dPrim .gt (dCons (dPrim .len (dCons (dVar 1) dNil)) (dCons (dVar 2) dNil))))
    (sRet (dC (.bool false)))
    sPass)
    (sRet (dNot (dComp (iSeq (dVar 1)) (.nm 3) (some (dNot (dCall 3 (dCons (dVar 0) (dCons (dVar 3) dNil))))) (dVar 3) [3]))))
def b_check_list : Sx :=
  (sSeq (sExpr (dCall 2 (dCons (dVar 0) dNil)))
    (sIf (dOr (dNot (dCall 4 (dCons (dVar 0) (dCons (dVar 1) (dCons (dPrim .sub (dCons (dVar 0) (dCons (dC (.int 1)) dNil))) dNil))))) (dPrim .ne (dCons (dPrim .len (dCons (dVar 1) dNil)) (dCons (dPrim .sub (dCons (dVar 0) (dCons (dC (.int 1)) dNil))) dNil))))
    (sRaise 3)
    sPass))
def b_check_part : Sx :=
  (sSeq (sExpr (dCall 2 (dCons (dVar 0) dNil)))
    (sIf (dNot (dCall 4 (dCons (dVar 0) (dCons (dVar 1) (dCons (dPrim .sub (dCons (dVar 0) (dCons (dC (.int 1)) dNil))) dNil)))))
    (sRaise 3)
    sPass))
def b_moved : Sx :=
  (sSeq (sIf (dPrim .eq (dCons (dVar 1) (dCons (dPrim .ix (dCons (dVar 0) (dCons (dC (.int 0)) dNil))) dNil)))
    (sRet (dPrim .ix (dCons (dVar 0) (dCons (dC (.int 1)) dNil))))
    sPass)
    (sRet (dIte (dPrim .eq (dCons (dVar 1) (dCons (dPrim .ix (dCons (dVar 0) (dCons (dC (.int 1)) dNil))) dNil))) (dPrim .ix (dCons (dVar 0) (dCons (dC (.int 0)) dNil))) (dVar 1))))
def b_result_of : Sx :=
  (sSeq (sAsg 2 (dPrim .lst dNil))
    (sSeq (sFor (iRng (dCons (dVar 0) dNil)) (.nm 3)
    (sSeq (sAsg 4 (dVar 3))
    (sSeq (sFor (iSeq (dVar 1)) (.nm 5)
    (sAsg 4 (dCall 7 (dCons (dVar 5) (dCons (dVar 4) dNil)))))
    (sAppend 2 (dVar 4)))))
    (sRet (dPrim .tuplex (dCons (dVar 2) dNil)))))
def b_result : Sx :=
  (sSeq (sExpr (dCall 6 (dCons (dVar 0) (dCons (dVar 1) dNil))))
    (sRet (dCall 8 (dCons (dVar 0) (dCons (dVar 1) dNil)))))
def b_is_round_list : Sx :=
  (sRet (dPrim .eq (dCons (dCall 8 (dCons (dVar 0) (dCons (dVar 1) dNil))) (dCons (dPrim .add (dCons (dPrim .tuple (dCons (dPrim .rng2 (dCons (dC (.int 1)) (dCons (dVar 0) dNil))) dNil)) (dCons (dPrim .tup (dCons (dC (.int 0)) dNil)) dNil))) dNil))))
def b_is_round : Sx :=
  (sSeq (sExpr (dCall 5 (dCons (dVar 0) (dCons (dVar 1) dNil))))
    (sRet (dCall 10 (dCons (dVar 0) (dCons (dVar 1) dNil)))))
def t_groups_of : Sx :=
  (sSeq (sAsg 3 (dPrim .lst dNil))
    (sSeq (sFor (iRng (dCons (dVar 0) dNil)) (.nm 4)
    (sIf (dNot (dComp (iSeq (dVar 3)) (.nm 5) (some (dPrim .isin (dCons (dVar 4) (dCons (dVar 5) dNil)))) (dVar 5) [5]))
    (sSeq (sAsg 5 (dPrim .lst (dCons (dVar 4) dNil)))
    (sSeq (sWhile 1000 (dPrim .ne (dCons (dPrim .ix (dCons (dVar 2) (dCons (dPrim .ix (dCons (dVar 5) (dCons (dPrim .neg (dCons (dC (.int 1)) dNil)) dNil))) dNil))) (dCons (dVar 4) dNil)))
    (sAppend 5 (dPrim .ix (dCons (dVar 2) (dCons (dPrim .ix (dCons (dVar 5) (dCons (dPrim .neg (dCons (dC (.int 1)) dNil)) dNil))) dNil)))))
    (sAppend 3 (dPrim .tuple (dCons (dPrim .sorted (dCons (dVar 5) dNil)) dNil)))))
    sPass))
    (sRet (dVar 3))))
def b_groups_of : Sx := sSeq (sAsg 2 (dCall 8 (dCons (dVar 0) (dCons (dVar 1) dNil)))) t_groups_of
def b_groups : Sx :=
  (sSeq (sExpr (dCall 6 (dCons (dVar 0) (dCons (dVar 1) dNil))))
    (sSeq (sIf (dNot (dCall 1 (dCons (dVar 2) (dCons (dC (.int 0)) (dCons (dPrim .len (dCons (dVar 1) dNil)) dNil)))))
    (sRaise 4)
    sPass)
    (sRet (dCall 12 (dCons (dVar 0) (dCons (dPrim .slH (dCons (dVar 1) (dCons (dVar 2) dNil))) dNil))))))
def b_every_exchange : Sx :=
  (sRet (dComp2 (iRng (dCons (dVar 0) dNil)) (.nm 1) (iRng (dCons (dPrim .add (dCons (dVar 1) (dCons (dC (.int 1)) dNil))) (dCons (dVar 0) dNil))) (.nm 2) (dPrim .tup (dCons (dVar 1) (dCons (dVar 2) dNil))) [1, 2] [2]))
def t_rest_groups : Sx :=
  (sSeq (sAsg 3 (dComp (iRng (dCons (dVar 0) dNil)) (.nm 8) none (dMeth .index isX (dVar 2) (dVar 8)) [8]))
    (sSeq (sAsg 4 (dComp (iRng (dCons (dVar 0) dNil)) (.nm 8) none (dPrim .mod (dCons (dPrim .add (dCons (dPrim .ix (dCons (dVar 3) (dCons (dVar 8) dNil))) (dCons (dC (.int 1)) dNil))) (dCons (dVar 0) dNil))) [8]))
    (sSeq (sAsg 5 (dPrim .lst dNil))
    (sSeq (sFor (iRng (dCons (dVar 0) dNil)) (.nm 6)
    (sIf (dNot (dComp (iSeq (dVar 5)) (.nm 7) (some (dPrim .isin (dCons (dVar 6) (dCons (dVar 7) dNil)))) (dVar 7) [7]))
    (sSeq (sAsg 7 (dPrim .lst (dCons (dVar 6) dNil)))
    (sSeq (sWhile 1000 (dPrim .ne (dCons (dPrim .ix (dCons (dVar 4) (dCons (dPrim .ix (dCons (dVar 7) (dCons (dPrim .neg (dCons (dC (.int 1)) dNil)) dNil))) dNil))) (dCons (dVar 6) dNil)))
    (sAppend 7 (dPrim .ix (dCons (dVar 4) (dCons (dPrim .ix (dCons (dVar 7) (dCons (dPrim .neg (dCons (dC (.int 1)) dNil)) dNil))) dNil)))))
    (sAppendMv 5 7)))
    sPass))
    (sRet (dVar 5))))))
def b_rest_groups : Sx := sSeq (sAsg 2 (dCall 8 (dCons (dVar 0) (dCons (dVar 1) dNil)))) t_rest_groups
def b_completions_of : Sx :=
  (sSeq (sAsg 2 (dCall 15 (dCons (dVar 0) (dCons (dVar 1) dNil))))
    (sSeq (sIf (dPrim .ne (dCons (dPrim .sub (dCons (dVar 0) (dCons (dPrim .len (dCons (dVar 2) dNil)) dNil))) (dCons (dPrim .sub (dCons (dPrim .sub (dCons (dVar 0) (dCons (dC (.int 1)) dNil))) (dCons (dPrim .len (dCons (dVar 1) dNil)) dNil))) dNil)))
    (sRet (dC (.int 0)))
    sPass)
    (sSeq (sAsg 3 (dC (.int 1)))
    (sSeq (sFor (iRng (dCons (dC (.int 1)) (dCons (dPrim .sub (dCons (dVar 0) (dCons (dPrim .len (dCons (dVar 1) dNil)) dNil))) dNil))) (.nm 4)
    (sAug 3 .mul (dVar 4)))
    (sSeq (sFor (iSeq (dVar 2)) (.nm 5)
    (sSeq (sAsg 6 (dC (.int 1)))
    (sSeq (sFor (iRng (dCons (dC (.int 2)) (dCons (dPrim .len (dCons (dVar 5) dNil)) dNil))) (.nm 4)
    (sSeq (sAug 3 .mul (dPrim .len (dCons (dVar 5) dNil)))
    (sAug 6 .mul (dVar 4))))
    (sAug 3 .fdiv (dVar 6)))))
    (sRet (dVar 3)))))))
def b_count_completions : Sx :=
  (sSeq (sExpr (dCall 6 (dCons (dVar 0) (dCons (dVar 1) dNil))))
    (sRet (dCall 16 (dCons (dVar 0) (dCons (dVar 1) dNil)))))
def b_next_exchanges : Sx :=
  (sSeq (sExpr (dCall 6 (dCons (dVar 0) (dCons (dVar 1) dNil))))
    (sSeq (sIf (dPrim .eq (dCons (dPrim .len (dCons (dVar 1) dNil)) (dCons (dPrim .sub (dCons (dVar 0) (dCons (dC (.int 1)) dNil))) dNil)))
    (sRet (dPrim .lst dNil))
    sPass)
    (sRet (dComp (iSeq (dCall 14 (dCons (dVar 0) dNil))) (.nm 2) (some (dPrim .gt (dCons (dCall 16 (dCons (dVar 0) (dCons (dPrim .add (dCons (dVar 1) (dCons (dPrim .tup (dCons (dVar 2) dNil)) dNil))) dNil))) (dCons (dC (.int 0)) dNil)))) (dVar 2) [2]))))
def b_cross : Sx :=
  (sSeq (sAsg 2 (dComp (iSeq (dVar 1)) (.nm 4) (some (dChain .lt .lt (dPrim .ix (dCons (dVar 0) (dCons (dC (.int 0)) dNil))) (dVar 4) (dPrim .ix (dCons (dVar 0) (dCons (dC (.int 1)) dNil))))) (dVar 4) [4]))
    (sSeq (sAsg 3 (dComp (iSeq (dVar 1)) (.nm 4) (some (dOr (dPrim .lt (dCons (dVar 4) (dCons (dPrim .ix (dCons (dVar 0) (dCons (dC (.int 0)) dNil))) dNil))) (dPrim .gt (dCons (dVar 4) (dCons (dPrim .ix (dCons (dVar 0) (dCons (dC (.int 1)) dNil))) dNil))))) (dVar 4) [4]))
    (sRet (dAnd (dPrim .eq (dCons (dPrim .len (dCons (dVar 2) dNil)) (dCons (dC (.int 1)) dNil))) (dPrim .eq (dCons (dPrim .len (dCons (dVar 3) dNil)) (dCons (dC (.int 1)) dNil)))))))
def b_far_end : Sx :=
  (sRet (dPrim .mod (dCons (dPrim .sub (dCons (dPrim .sum (dCons (dVar 1) dNil)) (dCons (dPrim .mul (dCons (dC (.int 2)) (dCons (dVar 2) dNil))) dNil))) (dCons (dVar 0) dNil))))
def b_wrong_turns : Sx :=
  (sSeq (sAsg 2 (dPrim .lst dNil))
    (sSeq (sFor (iEnum (dVar 1)) (.tp [(.nm 3), (.nm 4)])
    (sFor (iEnum (dPrim .slH (dCons (dVar 1) (dCons (dVar 3) dNil)))) (.tp [(.nm 5), (.nm 6)])
    (sSeq (sAsg 7 (dComp (iSeq (dVar 6)) (.nm 8) (some (dPrim .isin (dCons (dVar 8) (dCons (dVar 4) dNil)))) (dVar 8) [8]))
    (sIf (dComp (iSeq (dVar 7)) (.nm 8) (some (dPrim .ge (dCons (dCall 20 (dCons (dVar 0) (dCons (dVar 6) (dCons (dVar 8) dNil)))) (dCons (dCall 20 (dCons (dVar 0) (dCons (dVar 4) (dCons (dVar 8) dNil)))) dNil)))) (dVar 8) [8])
    (sAppend 2 (dPrim .tup (dCons (dC (.str "turn")) (dCons (dVar 5) (dCons (dVar 3) dNil)))))
    sPass))))
    (sRet (dPrim .sorted (dCons (dVar 2) dNil)))))
def b_crossings : Sx :=
  (sSeq (sAsg 1 (dPrim .lst dNil))
    (sSeq (sFor (iEnum (dVar 0)) (.tp [(.nm 2), (.nm 3)])
    (sExtend 1 (dComp (iEnum (dPrim .slH (dCons (dVar 0) (dCons (dVar 2) dNil)))) (.tp [(.nm 4), (.nm 5)]) (some (dCall 19 (dCons (dVar 5) (dCons (dVar 3) dNil)))) (dPrim .tup (dCons (dC (.str "cross")) (dCons (dVar 4) (dCons (dVar 2) dNil)))) [4, 5])))
    (sRet (dPrim .sorted (dCons (dVar 1) dNil)))))
def b_closing : Sx :=
  (sSeq (sAsg 2 (dPrim .list (dCons (dPrim .rng1 (dCons (dVar 0) dNil)) dNil)))
    (sSeq (sFor (iEnum (dVar 1)) (.tp [(.nm 3), (.tp [(.nm 4), (.nm 5)])])
    (sSeq (sIf (dPrim .eq (dCons (dPrim .ix (dCons (dVar 2) (dCons (dVar 4) dNil))) (dCons (dPrim .ix (dCons (dVar 2) (dCons (dVar 5) dNil))) dNil)))
    (sRet (dVar 3))
    sPass)
    (sAsg 2 (dComp (iSeq (dVar 2)) (.nm 6) none (dIte (dPrim .eq (dCons (dVar 6) (dCons (dPrim .ix (dCons (dVar 2) (dCons (dVar 5) dNil))) dNil))) (dPrim .ix (dCons (dVar 2) (dCons (dVar 4) dNil))) (dVar 6)) [6]))))
    (sRet (dC .none))))
def b_is_paper : Sx :=
  (sSeq (sExpr (dCall 5 (dCons (dVar 0) (dCons (dVar 1) dNil))))
    (sSeq (sIf (dOr (dNot (dPrim .isTuple (dCons (dVar 2) dNil))) (dOr (dNot (dVar 2)) (dNot (dPrim .isStr (dCons (dPrim .ix (dCons (dVar 2) (dCons (dC (.int 0)) dNil))) dNil)))))
    (sRet (dC (.bool false)))
    sPass)
    (sSeq (sIf (dComp (iSeq (dPrim .slL (dCons (dVar 2) (dCons (dC (.int 1)) dNil)))) (.nm 3) (some (dNot (dCall 1 (dCons (dVar 3) (dCons (dC (.int 0)) (dCons (dPrim .sub (dCons (dPrim .len (dCons (dVar 1) dNil)) (dCons (dC (.int 1)) dNil))) dNil)))))) (dVar 3) [3])
    (sRet (dC (.bool false)))
    sPass)
    (sSeq (sIf (dPrim .eq (dCons (dPrim .ix (dCons (dVar 2) (dCons (dC (.int 0)) dNil))) (dCons (dC (.str "loop")) dNil)))
    (sRet (dAnd (dPrim .eq (dCons (dPrim .len (dCons (dVar 2) dNil)) (dCons (dC (.int 2)) dNil))) (dPrim .notN (dCons (dCall 23 (dCons (dVar 0) (dCons (dPrim .slH (dCons (dVar 1) (dCons (dPrim .add (dCons (dPrim .ix (dCons (dVar 2) (dCons (dC (.int 1)) dNil))) (dCons (dC (.int 1)) dNil))) dNil))) dNil))) dNil))))
    sPass)
    (sRet (dPrim .isin (dCons (dVar 2) (dCons (dPrim .add (dCons (dCall 22 (dCons (dVar 1) dNil)) (dCons (dCall 21 (dCons (dVar 0) (dCons (dVar 1) dNil))) dNil))) dNil))))))))
def b_written : Sx :=
  (sRet (dMeth .join isStr (dC (.str " ")) (dComp (iSeq (dVar 0)) (.tp [(.nm 1), (.nm 2)]) none (dFstr (dVar 1) "-" (dVar 2)) [1, 2])))
def b_format_list : Sx :=
  (sSeq (sExpr (dCall 5 (dCons (dVar 0) (dCons (dVar 1) dNil))))
    (sRet (dCall 25 (dCons (dVar 1) dNil))))
def b_chords_of : Sx :=
  (sSeq (sExpr (dCall 5 (dCons (dVar 0) (dCons (dVar 1) dNil))))
    (sRet (dPrim .tuple (dCons (dPrim .sortedT (dCons (dVar 1) dNil)) dNil))))
def b__law_cell : Sx :=
  (sSeq (sIf (dPrim .lt (dCons (dVar 1) (dCons (dPrim .len (dCons (dVar 0) dNil)) dNil)))
    (sRet (dPrim .ix (dCons (dVar 0) (dCons (dVar 1) dNil))))
    sPass)
    (sRet (dC (.int 0))))
def b__law_row : Sx :=
  (sSeq (sAsg 2 (dCall 28 (dCons (dVar 0) (dCons (dVar 1) dNil))))
    (sSeq (sAsg 3 (dPrim .lst dNil))
    (sSeq (sFor (iRng (dCons (dC (.int 60)) dNil)) (.nm 4)
    (sIf (dPrim .lt (dCons (dCall 28 (dCons (dVar 0) (dCons (dVar 1) dNil))) (dCons (dPrim .pow (dCons (dC (.int 10)) (dCons (dC (.int 18)) dNil))) dNil)))
    (sSeq (sAsg 2 (dPrim .mod (dCons (dPrim .add (dCons (dPrim .add (dCons (dPrim .add (dCons (dPrim .mul (dCons (dVar 2) (dCons (dC (.int 48271)) dNil))) (dCons (dPrim .mul (dCons (dC (.int 131)) (dCons (dVar 4) dNil))) dNil))) (dCons (dC (.int 7)) dNil))) (dCons (dCall 28 (dCons (dVar 0) (dCons (dPrim .mod (dCons (dPrim .add (dCons (dPrim .add (dCons (dVar 1) (dCons (dC (.int 1)) dNil))) (dCons (dVar 4) dNil))) (dCons (dC (.int 20)) dNil))) dNil))) dNil))) (dCons (dC (.int 2147483647)) dNil))))
    (sAppend 3 (dPrim .mod (dCons (dPrim .fdiv (dCons (dVar 2) (dCons (dC (.int 11)) dNil))) (dCons (dC (.int 1000)) dNil)))))
    (sSeq (sAppend 3 (dPrim .mod (dCons (dVar 2) (dCons (dC (.int 1000)) dNil))))
    (sAsg 2 (dPrim .fdiv (dCons (dVar 2) (dCons (dC (.int 1000)) dNil)))))))
    (sRet (dVar 3)))))
def b__law_pairs : Sx :=
  (sSeq (sAsg 1 (dPrim .lst dNil))
    (sSeq (sFor (iRng (dCons (dVar 0) dNil)) (.nm 2)
    (sAsg 1 (dPrim .add (dCons (dVar 1) (dCons (dComp (iRng (dCons (dPrim .add (dCons (dVar 2) (dCons (dC (.int 1)) dNil))) (dCons (dVar 0) dNil))) (.nm 3) none (dPrim .tup (dCons (dVar 2) (dCons (dVar 3) dNil))) [3]) dNil)))))
    (sRet (dVar 1))))
def b__law_to : Sx :=
  (sSeq (sIf (dPrim .eq (dCons (dVar 1) (dCons (dPrim .ix (dCons (dVar 0) (dCons (dC (.int 0)) dNil))) dNil)))
    (sRet (dPrim .ix (dCons (dVar 0) (dCons (dC (.int 1)) dNil))))
    sPass)
    (sRet (dIte (dPrim .eq (dCons (dVar 1) (dCons (dPrim .ix (dCons (dVar 0) (dCons (dC (.int 1)) dNil))) dNil))) (dPrim .ix (dCons (dVar 0) (dCons (dC (.int 0)) dNil))) (dVar 1))))
def b__law_round : Sx :=
  (sSeq (sAsg 3 (dCall 29 (dCons (dVar 0) (dCons (dVar 1) dNil))))
    (sSeq (sAsg 4 (dComp (iRng (dCons (dC (.int 1)) (dCons (dVar 2) dNil))) (.nm 9) none (dPrim .tup (dCons (dC (.int 0)) (dCons (dVar 9) dNil))) [9]))
    (sSeq (sFor (iRng (dCons (dIte (dPrim .gt (dCons (dVar 2) (dCons (dC (.int 2)) dNil))) (dC (.int 16)) (dC (.int 0))) dNil)) (.nm 5)
    (sSeq (sAsg 6 (dPrim .mod (dCons (dPrim .ix (dCons (dVar 3) (dCons (dVar 5) dNil))) (dCons (dPrim .sub (dCons (dVar 2) (dCons (dC (.int 2)) dNil))) dNil))))
    (sSeq (sAsgT (.tp [(.nm 7), (.nm 8)]) (dPrim .tup (dCons (dPrim .ix (dCons (dVar 4) (dCons (dVar 6) dNil))) (dCons (dPrim .ix (dCons (dVar 4) (dCons (dPrim .add (dCons (dVar 6) (dCons (dC (.int 1)) dNil))) dNil))) dNil))))
    (sIf (dPrim .eq (dCons (dPrim .mod (dCons (dPrim .ix (dCons (dVar 3) (dCons (dPrim .add (dCons (dC (.int 20)) (dCons (dVar 5) dNil))) dNil))) (dCons (dC (.int 2)) dNil))) (dCons (dC (.int 0)) dNil)))
    (sSeq (sSetIx 4 (dVar 6) (dVar 8))
    (sSetIx 4 (dPrim .add (dCons (dVar 6) (dCons (dC (.int 1)) dNil))) (dPrim .tuple (dCons (dPrim .sorted (dCons (dComp (iSeq (dVar 7)) (.nm 9) none (dCall 31 (dCons (dVar 8) (dCons (dVar 9) dNil))) [9]) dNil)) dNil))))
    (sSeq (sSetIx 4 (dVar 6) (dPrim .tuple (dCons (dPrim .sorted (dCons (dComp (iSeq (dVar 8)) (.nm 9) none (dCall 31 (dCons (dVar 7) (dCons (dVar 9) dNil))) [9]) dNil)) dNil)))
    (sSetIx 4 (dPrim .add (dCons (dVar 6) (dCons (dC (.int 1)) dNil))) (dVar 7)))))))
    (sRet (dPrim .tuple (dCons (dVar 4) dNil))))))
def b__law_list : Sx :=
  (sSeq (sAsg 3 (dCall 29 (dCons (dVar 0) (dCons (dVar 1) dNil))))
    (sSeq (sAsg 4 (dCall 30 (dCons (dVar 2) dNil)))
    (sSeq (sAsg 5 (dCall 32 (dCons (dVar 0) (dCons (dVar 1) (dCons (dVar 2) dNil)))))
    (sSeq (sIf (dPrim .eq (dCons (dPrim .mod (dCons (dPrim .ix (dCons (dVar 3) (dCons (dC (.int 50)) dNil))) (dCons (dC (.int 3)) dNil))) (dCons (dC (.int 0)) dNil)))
    (sRet (dVar 5))
    sPass)
    (sSeq (sIf (dPrim .eq (dCons (dPrim .mod (dCons (dPrim .ix (dCons (dVar 3) (dCons (dC (.int 50)) dNil))) (dCons (dC (.int 3)) dNil))) (dCons (dC (.int 1)) dNil)))
    (sSeq (sAsg 6 (dPrim .mod (dCons (dPrim .ix (dCons (dVar 3) (dCons (dC (.int 51)) dNil))) (dCons (dPrim .len (dCons (dVar 5) dNil)) dNil))))
    (sRet (dPrim .add (dCons (dPrim .add (dCons (dPrim .slH (dCons (dVar 5) (dCons (dVar 6) dNil))) (dCons (dPrim .tup (dCons (dPrim .ix (dCons (dVar 4) (dCons (dPrim .mod (dCons (dPrim .ix (dCons (dVar 3) (dCons (dC (.int 52)) dNil))) (dCons (dPrim .len (dCons (dVar 4) dNil)) dNil))) dNil))) dNil)) dNil))) (dCons (dPrim .slL (dCons (dVar 5) (dCons (dPrim .add (dCons (dVar 6) (dCons (dC (.int 1)) dNil))) dNil))) dNil)))))
    sPass)
    (sRet (dPrim .tuple (dCons (dComp (iRng (dCons (dPrim .sub (dCons (dVar 2) (dCons (dC (.int 1)) dNil))) dNil)) (.nm 6) none (dPrim .ix (dCons (dVar 4) (dCons (dPrim .mod (dCons (dPrim .ix (dCons (dVar 3) (dCons (dPrim .add (dCons (dC (.int 40)) (dCons (dVar 6) dNil))) dNil))) (dCons (dPrim .len (dCons (dVar 4) dNil)) dNil))) dNil))) [6]) dNil))))))))
def b__law_error : Sx :=
  (sSeq (sTry (sIf (dPrim .eq (dCons (dVar 0) (dCons (dC (.int 0)) dNil)))
    (sExpr (dCall 9 (dCons (dVar 1) (dCons (dVar 2) dNil))))
    (sIf (dPrim .eq (dCons (dVar 0) (dCons (dC (.int 1)) dNil)))
    (sExpr (dCall 13 (dCons (dVar 1) (dCons (dVar 2) (dCons (dC (.int 0)) dNil)))))
    (sIf (dPrim .eq (dCons (dVar 0) (dCons (dC (.int 2)) dNil)))
    (sExpr (dCall 11 (dCons (dVar 1) (dCons (dVar 2) dNil))))
    (sIf (dPrim .eq (dCons (dVar 0) (dCons (dC (.int 3)) dNil)))
    (sExpr (dCall 24 (dCons (dVar 1) (dCons (dVar 2) (dCons (dC .none) dNil)))))
    (sIf (dPrim .eq (dCons (dVar 0) (dCons (dC (.int 4)) dNil)))
    (sExpr (dCall 17 (dCons (dVar 1) (dCons (dVar 2) dNil))))
    (sIf (dPrim .eq (dCons (dVar 0) (dCons (dC (.int 5)) dNil)))
    (sExpr (dCall 18 (dCons (dVar 1) (dCons (dVar 2) dNil))))
    (sIf (dPrim .eq (dCons (dVar 0) (dCons (dC (.int 6)) dNil)))
    (sExpr (dCall 27 (dCons (dVar 1) (dCons (dVar 2) dNil))))
    (sExpr (dCall 26 (dCons (dVar 1) (dCons (dVar 2) dNil)))))))))))
    [(2, fun e => some (.str (if subX e.cls 0 && !subX e.cls 3 then "size" else "other"))), (3, fun e => some (.str (if subX e.cls 0 && !subX e.cls 2 then "list" else "other")))])
    (sRet (dC (.str "none"))))
def b_check_round : Sx :=
  (sSeq (sExpr (dCall 5 (dCons (dVar 0) (dCons (dVar 1) dNil))))
    (sIf (dNot (dCall 10 (dCons (dVar 0) (dCons (dVar 1) dNil))))
    (sRaise 7)
    sPass))
def b_remaining_groups : Sx :=
  (sSeq (sExpr (dCall 35 (dCons (dVar 0) (dCons (dVar 1) dNil))))
    (sSeq (sIf (dNot (dCall 1 (dCons (dVar 2) (dCons (dC (.int 0)) (dCons (dPrim .len (dCons (dVar 1) dNil)) dNil)))))
    (sRaise 4)
    sPass)
    (sRet (dPrim .sorted (dCons (dComp (iSeq (dCall 15 (dCons (dVar 0) (dCons (dPrim .slH (dCons (dVar 1) (dCons (dVar 2) dNil))) dNil)))) (.nm 3) none (dPrim .tuple (dCons (dPrim .sorted (dCons (dVar 3) dNil)) dNil)) [3]) dNil)))))
def b__law_result : Sx :=
  (sSeq (sAsg 2 (dPrim .list (dCons (dPrim .rng1 (dCons (dVar 0) dNil)) dNil)))
    (sSeq (sFor (iSeq (dVar 1)) (.nm 3)
    (sAsg 2 (dComp (iSeq (dVar 2)) (.nm 4) none (dCall 31 (dCons (dVar 3) (dCons (dVar 4) dNil))) [4])))
    (sRet (dPrim .tuple (dCons (dVar 2) dNil)))))
def b__law_is_round : Sx :=
  (sRet (dPrim .eq (dCons (dCall 37 (dCons (dVar 0) (dCons (dVar 1) dNil))) (dCons (dPrim .tuple (dCons (dComp (iRng (dCons (dVar 0) dNil)) (.nm 2) none (dPrim .mod (dCons (dPrim .add (dCons (dVar 2) (dCons (dC (.int 1)) dNil))) (dCons (dVar 0) dNil))) [2]) dNil)) dNil))))
def t__law_groups : Sx :=
  (sSeq (sAsg 3 (dPrim .list (dCons (dPrim .rng1 (dCons (dVar 0) dNil)) dNil)))
    (sSeq (sFor (iRng (dCons (dVar 0) dNil)) (.nm 4)
    (sFor (iRng (dCons (dVar 0) dNil)) (.nm 5)
    (sSeq (sAsg 6 (dPrim .min2 (dCons (dPrim .ix (dCons (dVar 3) (dCons (dVar 5) dNil))) (dCons (dPrim .ix (dCons (dVar 3) (dCons (dPrim .ix (dCons (dVar 2) (dCons (dVar 5) dNil))) dNil))) dNil))))
    (sSeq (sSetIx 3 (dVar 5) (dVar 6))
    (sSetIx 3 (dPrim .ix (dCons (dVar 2) (dCons (dVar 5) dNil))) (dVar 6))))))
    (sSeq (sAsg 7 (dPrim .lst dNil))
    (sSeq (sFor (iSeq (dPrim .sset (dCons (dVar 3) dNil))) (.nm 8)
    (sAppend 7 (dPrim .tuple (dCons (dComp (iRng (dCons (dVar 0) dNil)) (.nm 5) (some (dPrim .eq (dCons (dPrim .ix (dCons (dVar 3) (dCons (dVar 5) dNil))) (dCons (dVar 8) dNil)))) (dVar 5) [5]) dNil))))
    (sRet (dVar 7))))))
def b__law_groups : Sx := sSeq (sAsg 2 (dCall 37 (dCons (dVar 0) (dCons (dVar 1) dNil)))) t__law_groups
def b__law_grouped : Sx :=
  (sTry (sRet (dIte (dPrim .eq (dCons (dVar 0) (dCons (dC (.int 0)) dNil))) (dCall 13 (dCons (dVar 1) (dCons (dVar 2) (dCons (dVar 3) dNil)))) (dCall 36 (dCons (dVar 1) (dCons (dVar 2) (dCons (dVar 3) dNil))))))
    [(4, fun e => some (.str (if subX e.cls 0 && !subX e.cls 3 then "place" else "other"))), (7, fun e => some (.str (if subX e.cls 0 && !subX e.cls 4 then "not" else "other")))])
def b__law_between : Sx :=
  (sSeq (sIf (dPrim .isin (dCons (dVar 1) (dCons (dVar 0) dNil)))
    (sRet (dC (.int 0)))
    sPass)
    (sRet (dIte (dChain .lt .lt (dPrim .ix (dCons (dVar 0) (dCons (dC (.int 0)) dNil))) (dVar 1) (dPrim .ix (dCons (dVar 0) (dCons (dC (.int 1)) dNil)))) (dC (.int 1)) (dPrim .neg (dCons (dC (.int 1)) dNil)))))
def b__law_crossed : Sx :=
  (sRet (dPrim .eq (dCons (dPrim .sorted (dCons (dComp (iSeq (dVar 1)) (.nm 2) none (dCall 41 (dCons (dVar 0) (dCons (dVar 2) dNil))) [2]) dNil)) (dCons (dPrim .lst (dCons (dPrim .neg (dCons (dC (.int 1)) dNil)) (dCons (dC (.int 1)) dNil))) dNil))))
def b_first_fault : Sx :=
  (sSeq (sAsg 2 (dCall 23 (dCons (dVar 0) (dCons (dVar 1) dNil))))
    (sSeq (sIf (dPrim .notN (dCons (dVar 2) dNil))
    (sRet (dPrim .tup (dCons (dC (.str "loop")) (dCons (dVar 2) dNil))))
    sPass)
    (sSeq (sAsg 3 (dPrim .add (dCons (dCall 22 (dCons (dVar 1) dNil)) (dCons (dCall 21 (dCons (dVar 0) (dCons (dVar 1) dNil))) dNil))))
    (sRet (dIte (dVar 3) (dPrim .ix (dCons (dVar 3) (dCons (dC (.int 0)) dNil))) (dC .none))))))
def b_paper : Sx :=
  (sSeq (sExpr (dCall 5 (dCons (dVar 0) (dCons (dVar 1) dNil))))
    (sSeq (sAsg 2 (dCall 43 (dCons (dVar 0) (dCons (dVar 1) dNil))))
    (sSeq (sIf (dPrim .isN (dCons (dVar 2) dNil))
    (sRaise 8)
    sPass)
    (sRet (dVar 2)))))
def b__law_whole : Sx :=
  (sRet (dAnd (dPrim .isInt (dCons (dVar 0) dNil)) (dNot (dPrim .isBool (dCons (dVar 0) dNil)))))
def b__law_in : Sx :=
  (sRet (dAnd (dCall 45 (dCons (dVar 0) dNil)) (dChain .le .le (dVar 1) (dVar 0) (dVar 2))))
def b__law_loop : Sx :=
  (sSeq (sFor (iRng (dCons (dPrim .len (dCons (dVar 1) dNil)) dNil)) (.nm 2)
    (sSeq (sAsg 3 (dPrim .lst (dCons (dPrim .ix (dCons (dPrim .ix (dCons (dVar 1) (dCons (dVar 2) dNil))) (dCons (dC (.int 0)) dNil))) dNil)))
    (sSeq (sFor (iRng (dCons (dVar 2) dNil)) (.nm 4)
    (sFor (iSeq (dPrim .slH (dCons (dVar 1) (dCons (dVar 2) dNil)))) (.nm 5)
    (sIf (dPrim .ne (dCons (dPrim .isin (dCons (dPrim .ix (dCons (dVar 5) (dCons (dC (.int 0)) dNil))) (dCons (dVar 3) dNil))) (dCons (dPrim .isin (dCons (dPrim .ix (dCons (dVar 5) (dCons (dC (.int 1)) dNil))) (dCons (dVar 3) dNil))) dNil)))
    (sAsg 3 (dPrim .add (dCons (dVar 3) (dCons (dComp (iSeq (dVar 5)) (.nm 6) (some (dPrim .notin (dCons (dVar 6) (dCons (dVar 3) dNil)))) (dVar 6) [6]) dNil))))
    sPass)))
    (sIf (dPrim .isin (dCons (dPrim .ix (dCons (dPrim .ix (dCons (dVar 1) (dCons (dVar 2) dNil))) (dCons (dC (.int 1)) dNil))) (dCons (dVar 3) dNil)))
    (sRet (dVar 2))
    sPass))))
    (sRet (dC .none)))
def b__law_is_paper : Sx :=
  (sSeq (sIf (dOr (dNot (dPrim .isTuple (dCons (dVar 2) dNil))) (dOr (dPrim .eq (dCons (dVar 2) (dCons (dPrim .tup dNil) dNil))) (dPrim .notin (dCons (dPrim .ix (dCons (dVar 2) (dCons (dC (.int 0)) dNil))) (dCons (dPrim .tup (dCons (dC (.str "loop")) (dCons (dC (.str "cross")) (dCons (dC (.str "turn")) dNil)))) dNil)))))
    (sRet (dC (.bool false)))
    sPass)
    (sSeq (sIf (dPrim .ne (dCons (dComp (iSeq (dPrim .slL (dCons (dVar 2) (dCons (dC (.int 1)) dNil)))) (.nm 8) (some (dNot (dCall 46 (dCons (dVar 8) (dCons (dC (.int 0)) (dCons (dPrim .sub (dCons (dPrim .len (dCons (dVar 1) dNil)) (dCons (dC (.int 1)) dNil))) dNil)))))) (dVar 8) [8]) (dCons (dPrim .lst dNil) dNil)))
    (sRet (dC (.bool false)))
    sPass)
    (sSeq (sIf (dPrim .eq (dCons (dPrim .ix (dCons (dVar 2) (dCons (dC (.int 0)) dNil))) (dCons (dC (.str "loop")) dNil)))
    (sRet (dAnd (dPrim .eq (dCons (dPrim .len (dCons (dVar 2) dNil)) (dCons (dC (.int 2)) dNil))) (dPrim .notN (dCons (dCall 47 (dCons (dVar 0) (dCons (dPrim .slH (dCons (dVar 1) (dCons (dPrim .add (dCons (dPrim .ix (dCons (dVar 2) (dCons (dC (.int 1)) dNil))) (dCons (dC (.int 1)) dNil))) dNil))) dNil))) dNil))))
    sPass)
    (sSeq (sIf (dOr (dPrim .ne (dCons (dPrim .len (dCons (dVar 2) dNil)) (dCons (dC (.int 3)) dNil))) (dPrim .ge (dCons (dPrim .ix (dCons (dVar 2) (dCons (dC (.int 1)) dNil))) (dCons (dPrim .ix (dCons (dVar 2) (dCons (dC (.int 2)) dNil))) dNil))))
    (sRet (dC (.bool false)))
    sPass)
    (sSeq (sPar [3, 4] (dCons (dPrim .ix (dCons (dVar 1) (dCons (dPrim .ix (dCons (dVar 2) (dCons (dC (.int 1)) dNil))) dNil))) (dCons (dPrim .ix (dCons (dVar 1) (dCons (dPrim .ix (dCons (dVar 2) (dCons (dC (.int 2)) dNil))) dNil))) dNil)))
    (sSeq (sIf (dPrim .eq (dCons (dPrim .ix (dCons (dVar 2) (dCons (dC (.int 0)) dNil))) (dCons (dC (.str "cross")) dNil)))
    (sRet (dCall 42 (dCons (dVar 3) (dCons (dVar 4) dNil))))
    sPass)
    (sSeq (sFor (iSeq (dVar 3)) (.nm 5)
    (sIf (dPrim .isin (dCons (dVar 5) (dCons (dVar 4) dNil)))
    (sSeq (sAsg 6 (dPrim .mod (dCons (dPrim .sub (dCons (dPrim .add (dCons (dPrim .ix (dCons (dVar 3) (dCons (dC (.int 0)) dNil))) (dCons (dPrim .ix (dCons (dVar 3) (dCons (dC (.int 1)) dNil))) dNil))) (dCons (dPrim .mul (dCons (dC (.int 2)) (dCons (dVar 5) dNil))) dNil))) (dCons (dVar 0) dNil))))
    (sSeq (sAsg 7 (dPrim .mod (dCons (dPrim .sub (dCons (dPrim .add (dCons (dPrim .ix (dCons (dVar 4) (dCons (dC (.int 0)) dNil))) (dCons (dPrim .ix (dCons (dVar 4) (dCons (dC (.int 1)) dNil))) dNil))) (dCons (dPrim .mul (dCons (dC (.int 2)) (dCons (dVar 5) dNil))) dNil))) (dCons (dVar 0) dNil))))
    (sIf (dPrim .le (dCons (dVar 7) (dCons (dVar 6) dNil)))
    (sRet (dC (.bool true)))
    sPass)))
    sPass))
    (sRet (dC (.bool false))))))))))
def b__law_paper : Sx :=
  (sTry (sRet (dCall 44 (dCons (dVar 0) (dCons (dVar 1) dNil))))
    [(8, fun e => some (.str (if subX e.cls 0 && !subX e.cls 7 then "round" else "other")))])
def b_through : Sx :=
  (sRet (dPrim .tuple (dCons (dPrim .sorted (dCons (dComp (iSeq (dVar 1)) (.nm 2) none (dCall 7 (dCons (dVar 0) (dCons (dVar 2) dNil))) [2]) dNil)) dNil)))
def b_check_number : Sx :=
  (sIf (dNot (dCall 1 (dCons (dVar 1) (dCons (dC (.int 0)) (dCons (dPrim .sub (dCons (dPrim .len (dCons (dVar 0) dNil)) (dCons (dC (.int 2)) dNil))) dNil)))))
    (sRaise 4)
    sPass)
def b_later_of : Sx :=
  (sSeq (sPar [2, 3] (dCons (dPrim .ix (dCons (dVar 0) (dCons (dVar 1) dNil))) (dCons (dPrim .ix (dCons (dVar 0) (dCons (dPrim .add (dCons (dVar 1) (dCons (dC (.int 1)) dNil))) dNil))) dNil)))
    (sRet (dPrim .add (dCons (dPrim .add (dCons (dPrim .slH (dCons (dVar 0) (dCons (dVar 1) dNil))) (dCons (dPrim .tup (dCons (dVar 3) (dCons (dCall 50 (dCons (dVar 3) (dCons (dVar 2) dNil))) dNil))) dNil))) (dCons (dPrim .slL (dCons (dVar 0) (dCons (dPrim .add (dCons (dVar 1) (dCons (dC (.int 2)) dNil))) dNil))) dNil)))))
def b_earlier_of : Sx :=
  (sSeq (sPar [2, 3] (dCons (dPrim .ix (dCons (dVar 0) (dCons (dVar 1) dNil))) (dCons (dPrim .ix (dCons (dVar 0) (dCons (dPrim .add (dCons (dVar 1) (dCons (dC (.int 1)) dNil))) dNil))) dNil)))
    (sRet (dPrim .add (dCons (dPrim .add (dCons (dPrim .slH (dCons (dVar 0) (dCons (dVar 1) dNil))) (dCons (dPrim .tup (dCons (dCall 50 (dCons (dVar 2) (dCons (dVar 3) dNil))) (dCons (dVar 2) dNil))) dNil))) (dCons (dPrim .slL (dCons (dVar 0) (dCons (dPrim .add (dCons (dVar 1) (dCons (dC (.int 2)) dNil))) dNil))) dNil)))))
def b_move_later : Sx :=
  (sSeq (sExpr (dCall 5 (dCons (dVar 0) (dCons (dVar 1) dNil))))
    (sSeq (sExpr (dCall 51 (dCons (dVar 1) (dCons (dVar 2) dNil))))
    (sRet (dCall 52 (dCons (dVar 1) (dCons (dVar 2) dNil))))))
def b_move_earlier : Sx :=
  (sSeq (sExpr (dCall 5 (dCons (dVar 0) (dCons (dVar 1) dNil))))
    (sSeq (sExpr (dCall 51 (dCons (dVar 1) (dCons (dVar 2) dNil))))
    (sRet (dCall 53 (dCons (dVar 1) (dCons (dVar 2) dNil))))))
def b_turned : Sx :=
  (sSeq (sExpr (dCall 35 (dCons (dVar 0) (dCons (dVar 1) dNil))))
    (sSeq (sIf (dNot (dCall 1 (dCons (dVar 2) (dCons (dC (.int 0)) (dCons (dPrim .sub (dCons (dVar 0) (dCons (dC (.int 1)) dNil))) dNil)))))
    (sRaise 4)
    sPass)
    (sRet (dPrim .tuple (dCons (dComp (iSeq (dVar 1)) (.nm 3) none (dPrim .tuple (dCons (dPrim .sorted (dCons (dComp (iSeq (dVar 3)) (.nm 4) none (dPrim .mod (dCons (dPrim .add (dCons (dVar 4) (dCons (dVar 2) dNil))) (dCons (dVar 0) dNil))) [4]) dNil)) dNil)) [3]) dNil)))))
def b_rolled : Sx :=
  (sSeq (sExpr (dCall 35 (dCons (dVar 0) (dCons (dVar 1) dNil))))
    (sRet (dPrim .add (dCons (dPrim .slL (dCons (dVar 1) (dCons (dC (.int 1)) dNil))) (dCons (dPrim .tup (dCons (dPrim .tuple (dCons (dPrim .sorted (dCons (dComp (iSeq (dPrim .ix (dCons (dVar 1) (dCons (dC (.int 0)) dNil)))) (.nm 2) none (dPrim .mod (dCons (dPrim .add (dCons (dVar 2) (dCons (dC (.int 1)) dNil))) (dCons (dVar 0) dNil))) [2]) dNil)) dNil)) dNil)) dNil)))))
def b__law_shifted : Sx :=
  (sTry (sSeq (sIf (dPrim .eq (dCons (dVar 0) (dCons (dC (.int 0)) dNil)))
    (sRet (dCall 54 (dCons (dVar 1) (dCons (dVar 2) (dCons (dVar 3) dNil)))))
    sPass)
    (sSeq (sIf (dPrim .eq (dCons (dVar 0) (dCons (dC (.int 1)) dNil)))
    (sRet (dCall 55 (dCons (dVar 1) (dCons (dVar 2) (dCons (dVar 3) dNil)))))
    sPass)
    (sRet (dIte (dPrim .eq (dCons (dVar 0) (dCons (dC (.int 2)) dNil))) (dCall 56 (dCons (dVar 1) (dCons (dVar 2) (dCons (dVar 3) dNil)))) (dCall 57 (dCons (dVar 1) (dCons (dVar 2) dNil)))))))
    [(4, fun e => some (.str (if subX e.cls 0 && !subX e.cls 3 then "place" else "other"))), (7, fun e => some (.str (if subX e.cls 0 && !subX e.cls 8 then "not" else "other")))])
def b_road : Sx :=
  (sSeq (sExpr (dCall 35 (dCons (dVar 0) (dCons (dVar 1) dNil))))
    (sSeq (sExpr (dCall 35 (dCons (dVar 0) (dCons (dVar 2) dNil))))
    (sSeq sStuck
    (sSeq (sAsg 4 (dPrim .lst (dCons (dVar 1) dNil)))
    (sSeq (sWhile 1000 (dPrim .notin (dCons (dVar 2) (dCons (dVar 3) dNil)))
    (sSeq sStuck
    (sFor (iRng (dCons (dPrim .sub (dCons (dVar 0) (dCons (dC (.int 2)) dNil))) dNil)) (.nm 6)
    (sFor (iSeq (dPrim .tup (dCons (dCall 52 (dCons (dVar 5) (dCons (dVar 6) dNil))) (dCons (dCall 53 (dCons (dVar 5) (dCons (dVar 6) dNil))) dNil)))) (.nm 7)
    (sIf (dPrim .notin (dCons (dVar 7) (dCons (dVar 3) dNil)))
    (sSeq (sSetIx 3 (dVar 7) (dVar 5))
    (sAppend 4 (dVar 7)))
    sPass)))))
    (sSeq (sAsg 8 (dPrim .lst (dCons (dVar 2) dNil)))
    (sSeq (sWhile 1000 (dPrim .notN (dCons (dPrim .ix (dCons (dVar 3) (dCons (dPrim .ix (dCons (dVar 8) (dCons (dPrim .neg (dCons (dC (.int 1)) dNil)) dNil))) dNil))) dNil))
    (sAppend 8 (dPrim .ix (dCons (dVar 3) (dCons (dPrim .ix (dCons (dVar 8) (dCons (dPrim .neg (dCons (dC (.int 1)) dNil)) dNil))) dNil)))))
    (sRet (dPrim .rev (dCons (dVar 8) dNil))))))))))
def b__law_road : Sx :=
  (sTry (sRet (dCall 59 (dCons (dVar 0) (dCons (dVar 1) (dCons (dVar 2) dNil)))))
    [(7, fun e => some (.str (if subX e.cls 0 && !subX e.cls 3 then "not" else "other")))])
def b_complete : Sx :=
  (sSeq (sExpr (dCall 6 (dCons (dVar 0) (dCons (dVar 1) dNil))))
    (sSeq (sIf (dPrim .eq (dCons (dCall 16 (dCons (dVar 0) (dCons (dVar 1) dNil))) (dCons (dC (.int 0)) dNil)))
    (sRaise 9)
    sPass)
    (sSeq (sAsg 2 (dVar 1))
    (sSeq (sWhile 1000 (dPrim .lt (dCons (dPrim .len (dCons (dVar 2) dNil)) (dCons (dPrim .sub (dCons (dVar 0) (dCons (dC (.int 1)) dNil))) dNil)))
    (sAsg 2 (dPrim .add (dCons (dVar 2) (dCons (dPrim .tup (dCons (dPrim .ix (dCons (dCall 18 (dCons (dVar 0) (dCons (dVar 2) dNil))) (dCons (dC (.int 0)) dNil))) dNil)) dNil)))))
    (sRet (dVar 2))))))
def b__law_all : Sx :=
  (sSeq (sAsg 2 (dPrim .lst (dCons (dVar 1) dNil)))
    (sSeq (sFor (iRng (dCons (dPrim .sub (dCons (dPrim .sub (dCons (dVar 0) (dCons (dC (.int 1)) dNil))) (dCons (dPrim .len (dCons (dVar 1) dNil)) dNil))) dNil)) (.nm 3)
    (sSeq (sAsg 4 (dPrim .lst dNil))
    (sSeq (sFor (iSeq (dVar 2)) (.nm 5)
    (sAsg 4 (dPrim .add (dCons (dVar 4) (dCons (dComp (iSeq (dCall 30 (dCons (dVar 0) dNil))) (.nm 6) (some (dPrim .isN (dCons (dCall 47 (dCons (dVar 0) (dCons (dPrim .add (dCons (dVar 5) (dCons (dPrim .tup (dCons (dVar 6) dNil)) dNil))) dNil))) dNil))) (dPrim .add (dCons (dVar 5) (dCons (dPrim .tup (dCons (dVar 6) dNil)) dNil))) [6]) dNil)))))
    (sAsg 2 (dVar 4)))))
    (sRet (dComp (iSeq (dVar 2)) (.nm 5) (some (dCall 38 (dCons (dVar 0) (dCons (dVar 5) dNil)))) (dVar 5) [5]))))
def b__law_completed : Sx :=
  (sTry (sRet (dCall 61 (dCons (dVar 0) (dCons (dVar 1) dNil))))
    [(9, fun e => some (.str (if subX e.cls 0 && !subX e.cls 7 then "cannot" else "other")))])
def b_count_lists : Sx :=
  (sSeq (sExpr (dCall 2 (dCons (dVar 0) dNil)))
    (sRet (dCall 16 (dCons (dVar 0) (dCons (dPrim .tup dNil) dNil)))))
def b_lists_from : Sx :=
  (sSeq (sIf (dPrim .eq (dCons (dPrim .len (dCons (dVar 1) dNil)) (dCons (dPrim .sub (dCons (dVar 0) (dCons (dC (.int 1)) dNil))) dNil)))
    (sRet (dIte (dPrim .gt (dCons (dCall 16 (dCons (dVar 0) (dCons (dVar 1) dNil))) (dCons (dC (.int 0)) dNil))) (dPrim .lst (dCons (dVar 1) dNil)) (dPrim .lst dNil)))
    sPass)
    (sSeq (sAsg 2 (dPrim .lst dNil))
    (sSeq (sFor (iSeq (dCall 14 (dCons (dVar 0) dNil))) (.nm 3)
    (sIf (dPrim .gt (dCons (dCall 16 (dCons (dVar 0) (dCons (dPrim .add (dCons (dVar 1) (dCons (dPrim .tup (dCons (dVar 3) dNil)) dNil))) dNil))) (dCons (dC (.int 0)) dNil)))
    (sExtend 2 (dCall 65 (dCons (dVar 0) (dCons (dPrim .add (dCons (dVar 1) (dCons (dPrim .tup (dCons (dVar 3) dNil)) dNil))) dNil))))
    sPass))
    (sRet (dVar 2)))))
def b_all_lists : Sx :=
  (sSeq (sExpr (dCall 2 (dCons (dVar 0) dNil)))
    (sRet (dCall 65 (dCons (dVar 0) (dCons (dPrim .tup dNil) dNil)))))
def b_is_plain_tree : Sx :=
  (sSeq (sIf (dOr (dPrim .ne (dCons (dPrim .len (dCons (dVar 1) dNil)) (dCons (dPrim .sub (dCons (dVar 0) (dCons (dC (.int 1)) dNil))) dNil))) (dPrim .notN (dCons (dCall 23 (dCons (dVar 0) (dCons (dVar 1) dNil))) dNil)))
    (sRet (dC (.bool false)))
    sPass)
    (sSeq (sFor (iEnum (dVar 1)) (.tp [(.nm 2), (.nm 3)])
    (sIf (dComp (iSeq (dPrim .slL (dCons (dVar 1) (dCons (dPrim .add (dCons (dVar 2) (dCons (dC (.int 1)) dNil))) dNil)))) (.nm 4) (some (dCall 19 (dCons (dVar 3) (dCons (dVar 4) dNil)))) (dVar 4) [4])
    (sRet (dC (.bool false)))
    sPass))
    (sRet (dC (.bool true)))))
def b_is_tree : Sx :=
  (sSeq (sExpr (dCall 2 (dCons (dVar 0) dNil)))
    (sSeq (sIf (dNot (dCall 4 (dCons (dVar 0) (dCons (dVar 1) (dCons (dPrim .sub (dCons (dVar 0) (dCons (dC (.int 1)) dNil))) dNil)))))
    (sRet (dC (.bool false)))
    sPass)
    (sSeq (sIf (dComp (iZip (dCons (dVar 1) (dCons (dPrim .slL (dCons (dVar 1) (dCons (dC (.int 1)) dNil))) dNil))) (.tp [(.nm 2), (.nm 3)]) (some (dGeT (dVar 2) (dVar 3))) (dC (.int 1)) [2, 3])
    (sRet (dC (.bool false)))
    sPass)
    (sRet (dCall 67 (dCons (dVar 0) (dCons (dVar 1) dNil)))))))
def b_earlier_chords : Sx :=
  (sSeq (sAsg 3 (dPrim .lst dNil))
    (sSeq (sFor (iSeq (dVar 1)) (.nm 4)
    (sSeq (sAsg 5 (dComp (iSeq (dVar 2)) (.nm 6) (some (dPrim .isin (dCons (dVar 6) (dCons (dVar 4) dNil)))) (dVar 6) [6]))
    (sIf (dAnd (dPrim .ne (dCons (dVar 4) (dCons (dVar 2) dNil))) (dComp (iSeq (dVar 5)) (.nm 6) (some (dPrim .lt (dCons (dCall 20 (dCons (dVar 0) (dCons (dVar 4) (dCons (dVar 6) dNil)))) (dCons (dCall 20 (dCons (dVar 0) (dCons (dVar 2) (dCons (dVar 6) dNil)))) dNil)))) (dVar 6) [6]))
    (sAppend 3 (dVar 4))
    sPass)))
    (sRet (dVar 3))))
def b_check_tree : Sx :=
  (sIf (dNot (dCall 68 (dCons (dVar 0) (dCons (dVar 1) dNil))))
    (sRaise 5)
    sPass)
def b_orders_of : Sx :=
  (sSeq (sIf (dPrim .eq (dCons (dPrim .len (dCons (dVar 2) dNil)) (dCons (dPrim .len (dCons (dVar 1) dNil)) dNil)))
    (sRet (dPrim .lst (dCons (dVar 2) dNil)))
    sPass)
    (sSeq (sAsg 3 (dPrim .lst dNil))
    (sSeq (sFor (iSeq (dVar 1)) (.nm 4)
    (sIf (dAnd (dPrim .notin (dCons (dVar 4) (dCons (dVar 2) dNil))) (dNot (dComp (iSeq (dCall 69 (dCons (dVar 0) (dCons (dVar 1) (dCons (dVar 4) dNil))))) (.nm 5) (some (dPrim .notin (dCons (dVar 5) (dCons (dVar 2) dNil)))) (dVar 5) [5])))
    (sExtend 3 (dCall 71 (dCons (dVar 0) (dCons (dVar 1) (dCons (dPrim .add (dCons (dVar 2) (dCons (dPrim .tup (dCons (dVar 4) dNil)) dNil))) dNil)))))
    sPass))
    (sRet (dVar 3)))))
def b_lists_of : Sx :=
  (sSeq (sExpr (dCall 70 (dCons (dVar 0) (dCons (dVar 1) dNil))))
    (sRet (dCall 71 (dCons (dVar 0) (dCons (dVar 1) (dCons (dPrim .tup dNil) dNil))))))
def b__law_treed : Sx :=
  (sTry (sRet (dCall 72 (dCons (dVar 0) (dCons (dVar 1) dNil))))
    [(5, fun e => some (.str (if subX e.cls 0 && !subX e.cls 3 then "tree" else "other")))])
def b__law_is_tree : Sx :=
  (sSeq (sIf (dOr (dNot (dPrim .isTuple (dCons (dVar 1) dNil))) (dPrim .ne (dCons (dPrim .len (dCons (dVar 1) dNil)) (dCons (dPrim .sub (dCons (dVar 0) (dCons (dC (.int 1)) dNil))) dNil))))
    (sRet (dC (.bool false)))
    sPass)
    (sSeq (sFor (iSeq (dVar 1)) (.nm 2)
    (sSeq (sIf (dOr (dNot (dPrim .isTuple (dCons (dVar 2) dNil))) (dOr (dPrim .ne (dCons (dPrim .len (dCons (dVar 2) dNil)) (dCons (dC (.int 2)) dNil))) (dNot (dCall 46 (dCons (dPrim .ix (dCons (dVar 2) (dCons (dC (.int 0)) dNil))) (dCons (dC (.int 0)) (dCons (dPrim .sub (dCons (dVar 0) (dCons (dC (.int 1)) dNil))) dNil)))))))
    (sRet (dC (.bool false)))
    sPass)
    (sIf (dNot (dCall 46 (dCons (dPrim .ix (dCons (dVar 2) (dCons (dC (.int 1)) dNil))) (dCons (dPrim .add (dCons (dPrim .ix (dCons (dVar 2) (dCons (dC (.int 0)) dNil))) (dCons (dC (.int 1)) dNil))) (dCons (dPrim .sub (dCons (dVar 0) (dCons (dC (.int 1)) dNil))) dNil)))))
    (sRet (dC (.bool false)))
    sPass)))
    (sSeq (sIf (dOr (dPrim .ne (dCons (dPrim .list (dCons (dVar 1) dNil)) (dCons (dSst (dVar 1)) dNil))) (dPrim .notN (dCons (dCall 47 (dCons (dVar 0) (dCons (dVar 1) dNil))) dNil)))
    (sRet (dC (.bool false)))
    sPass)
    (sSeq (sFor (iSeq (dVar 1)) (.nm 2)
    (sIf (dPrim .ne (dCons (dComp (iSeq (dVar 1)) (.nm 3) (some (dCall 42 (dCons (dVar 2) (dCons (dVar 3) dNil)))) (dVar 3) [3]) (dCons (dPrim .lst dNil) dNil)))
    (sRet (dC (.bool false)))
    sPass))
    (sRet (dC (.bool true)))))))
def b__law_orders : Sx :=
  (sSeq (sAsg 1 (dPrim .lst (dCons (dPrim .tup dNil) dNil)))
    (sSeq (sFor (iRng (dCons (dPrim .len (dCons (dVar 0) dNil)) dNil)) (.nm 2)
    (sSeq (sAsg 3 (dPrim .lst dNil))
    (sSeq (sFor (iSeq (dVar 1)) (.nm 4)
    (sAsg 3 (dPrim .add (dCons (dVar 3) (dCons (dComp (iSeq (dVar 0)) (.nm 5) (some (dPrim .notin (dCons (dVar 5) (dCons (dVar 4) dNil)))) (dPrim .add (dCons (dVar 4) (dCons (dPrim .tup (dCons (dVar 5) dNil)) dNil))) [5]) dNil)))))
    (sAsg 1 (dVar 3)))))
    (sRet (dPrim .sorted (dCons (dVar 1) dNil)))))
def b_trees_from : Sx :=
  (sSeq (sIf (dPrim .eq (dCons (dPrim .len (dCons (dVar 1) dNil)) (dCons (dPrim .sub (dCons (dVar 0) (dCons (dC (.int 1)) dNil))) dNil)))
    (sRet (dPrim .lst (dCons (dVar 1) dNil)))
    sPass)
    (sSeq (sAsg 3 (dPrim .lst dNil))
    (sSeq (sFor (iEnum (dVar 2)) (.tp [(.nm 4), (.nm 5)])
    (sSeq (sAsg 6 (dNot (dComp (iSeq (dVar 1)) (.nm 7) (some (dCall 19 (dCons (dVar 7) (dCons (dVar 5) dNil)))) (dVar 7) [7])))
    (sIf (dAnd (dVar 6) (dPrim .isN (dCons (dCall 23 (dCons (dVar 0) (dCons (dPrim .add (dCons (dVar 1) (dCons (dPrim .tup (dCons (dVar 5) dNil)) dNil))) dNil))) dNil)))
    (sExtend 3 (dCall 76 (dCons (dVar 0) (dCons (dPrim .add (dCons (dVar 1) (dCons (dPrim .tup (dCons (dVar 5) dNil)) dNil))) (dCons (dPrim .slL (dCons (dVar 2) (dCons (dPrim .add (dCons (dVar 4) (dCons (dC (.int 1)) dNil))) dNil))) dNil)))))
    sPass)))
    (sRet (dVar 3)))))
def b_all_trees : Sx :=
  (sSeq (sExpr (dCall 2 (dCons (dVar 0) dNil)))
    (sRet (dCall 76 (dCons (dVar 0) (dCons (dPrim .tup dNil) (dCons (dCall 14 (dCons (dVar 0) dNil)) dNil))))))
def b_least_places : Sx :=
  (sSeq (sExpr (dCall 35 (dCons (dVar 0) (dCons (dVar 1) dNil))))
    (sRet (dPrim .tuple (dCons (dComp (iSeq (dVar 1)) (.tp [(.nm 2), (.nm 3)]) none (dVar 2) [2, 3]) dNil))))
def b_are_places : Sx :=
  (sSeq (sIf (dOr (dNot (dPrim .isTuple (dCons (dVar 1) dNil))) (dPrim .ne (dCons (dPrim .len (dCons (dVar 1) dNil)) (dCons (dPrim .sub (dCons (dVar 0) (dCons (dC (.int 1)) dNil))) dNil))))
    (sRet (dC (.bool false)))
    sPass)
    (sRet (dNot (dComp (iSeq (dVar 1)) (.nm 2) (some (dNot (dCall 1 (dCons (dVar 2) (dCons (dC (.int 0)) (dCons (dPrim .sub (dCons (dVar 0) (dCons (dC (.int 1)) dNil))) dNil)))))) (dVar 2) [2]))))
def b_fitting : Sx :=
  (sSeq (sIf (dNot (dVar 2))
    (sRet (dIte (dPrim .gt (dCons (dCall 16 (dCons (dVar 0) (dCons (dVar 1) dNil))) (dCons (dC (.int 0)) dNil))) (dVar 1) (dC .none)))
    sPass)
    (sSeq (sFor (iSeq (dCall 14 (dCons (dVar 0) dNil))) (.nm 3)
    (sIf (dAnd (dPrim .eq (dCons (dPrim .ix (dCons (dVar 3) (dCons (dC (.int 0)) dNil))) (dCons (dPrim .ix (dCons (dVar 2) (dCons (dC (.int 0)) dNil))) dNil))) (dPrim .gt (dCons (dCall 16 (dCons (dVar 0) (dCons (dPrim .add (dCons (dVar 1) (dCons (dPrim .tup (dCons (dVar 3) dNil)) dNil))) dNil))) (dCons (dC (.int 0)) dNil))))
    (sSeq (sAsg 4 (dCall 80 (dCons (dVar 0) (dCons (dPrim .add (dCons (dVar 1) (dCons (dPrim .tup (dCons (dVar 3) dNil)) dNil))) (dCons (dPrim .slL (dCons (dVar 2) (dCons (dC (.int 1)) dNil))) dNil)))))
    (sIf (dPrim .notN (dCons (dVar 4) dNil))
    (sRet (dVar 4))
    sPass))
    sPass))
    (sRet (dC .none))))
def b_from_places : Sx :=
  (sSeq (sExpr (dCall 2 (dCons (dVar 0) dNil)))
    (sSeq (sIf (dNot (dCall 79 (dCons (dVar 0) (dCons (dVar 1) dNil))))
    (sRaise 4)
    sPass)
    (sSeq (sAsg 2 (dCall 80 (dCons (dVar 0) (dCons (dPrim .tup dNil) (dCons (dVar 1) dNil)))))
    (sSeq (sIf (dPrim .isN (dCons (dVar 2) dNil))
    (sRaise 9)
    sPass)
    (sRet (dVar 2))))))
def b__law_placed : Sx :=
  (sTry (sRet (dIte (dPrim .eq (dCons (dVar 0) (dCons (dC (.int 0)) dNil))) (dCall 78 (dCons (dVar 1) (dCons (dVar 2) dNil))) (dCall 81 (dCons (dVar 1) (dCons (dVar 2) dNil)))))
    [(9, fun e => some (.str (if subX e.cls 0 && !subX e.cls 7 then "cannot" else "other"))), (4, fun e => some (.str (if subX e.cls 0 && !subX e.cls 9 then "place" else "other"))), (7, fun e => some (.str (if subX e.cls 0 && !subX e.cls 9 then "not" else "other")))])
def b_place_after : Sx :=
  (sSeq (sAsg 3 (dVar 2))
    (sSeq (sFor (iSeq (dPrim .slH (dCons (dVar 0) (dCons (dVar 1) dNil)))) (.nm 4)
    (sAsg 3 (dCall 7 (dCons (dVar 4) (dCons (dVar 3) dNil)))))
    (sRet (dVar 3))))
def b_check_answers : Sx :=
  (sSeq (sIf (dNot (dCall 1 (dCons (dVar 0) (dCons (dC (.int 2)) (dCons (dC (.int 5)) dNil)))))
    (sRaise 2)
    sPass)
    (sSeq (sIf (dNot (dPrim .isTuple (dCons (dVar 1) dNil)))
    (sRaise 6)
    sPass)
    (sFor (iSeq (dVar 1)) (.nm 2)
    (sSeq (sIf (dOr (dNot (dPrim .isTuple (dCons (dVar 2) dNil))) (dPrim .ne (dCons (dPrim .len (dCons (dVar 2) dNil)) (dCons (dC (.int 3)) dNil))))
    (sRaise 6)
    sPass)
    (sIf (dComp (iSeq (dVar 2)) (.nm 3) (some (dNot (dCall 1 (dCons (dVar 3) (dCons (dC (.int 0)) (dCons (dPrim .sub (dCons (dVar 0) (dCons (dC (.int 1)) dNil))) dNil)))))) (dVar 3) [3])
    (sRaise 6)
    sPass)))))
def b_candidates : Sx :=
  (sSeq (sExpr (dCall 84 (dCons (dVar 0) (dCons (dVar 1) dNil))))
    (sSeq (sAsg 2 (dPrim .lst dNil))
    (sSeq (sFor (iSeq (dCall 65 (dCons (dVar 0) (dCons (dPrim .tup dNil) dNil)))) (.nm 3)
    (sIf (dNot (dComp (iSeq (dVar 1)) (.tp [(.nm 4), (.nm 5), (.nm 6)]) (some (dPrim .ne (dCons (dCall 83 (dCons (dVar 3) (dCons (dVar 4) (dCons (dVar 5) dNil)))) (dCons (dVar 6) dNil)))) (dVar 4) [4, 5, 6]))
    (sAppend 2 (dVar 3))
    sPass))
    (sRet (dVar 2)))))
def b_best_question : Sx :=
  (sSeq (sAsg 2 (dCall 85 (dCons (dVar 0) (dCons (dVar 1) dNil))))
    (sSeq (sIf (dNot (dVar 2))
    (sRaise 6)
    sPass)
    (sSeq (sAsg 3 (dC .none))
    (sSeq (sFor (iRng (dCons (dC (.int 1)) (dCons (dPrim .sub (dCons (dVar 0) (dCons (dC (.int 1)) dNil))) dNil))) (.nm 4)
    (sFor (iRng (dCons (dVar 0) dNil)) (.nm 5)
    (sSeq (sAsg 6 (dComp (iSeq (dVar 2)) (.nm 8) none (dCall 83 (dCons (dVar 8) (dCons (dVar 4) (dCons (dVar 5) dNil)))) [8]))
    (sSeq (sAsg 7 (dPrim .max1 (dCons (dComp (iSeq (dVar 6)) (.nm 9) none (dMeth .count isLst (dVar 6) (dVar 9)) [9]) dNil)))
    (sIf (dAnd (dPrim .lt (dCons (dVar 7) (dCons (dPrim .len (dCons (dVar 2) dNil)) dNil))) (dOr (dPrim .isN (dCons (dVar 3) dNil)) (dPrim .lt (dCons (dVar 7) (dCons (dPrim .ix (dCons (dVar 3) (dCons (dC (.int 0)) dNil))) dNil)))))
    (sAsg 3 (dPrim .tup (dCons (dVar 7) (dCons (dPrim .tup (dCons (dVar 4) (dCons (dVar 5) dNil))) dNil))))
    sPass)))))
    (sRet (dIte (dPrim .isN (dCons (dVar 3) dNil)) (dC .none) (dPrim .ix (dCons (dVar 3) (dCons (dC (.int 1)) dNil)))))))))
def b__law_hidden : Sx :=
  (sTry (sRet (dIte (dPrim .eq (dCons (dVar 0) (dCons (dC (.int 0)) dNil))) (dCall 85 (dCons (dVar 1) (dCons (dVar 2) dNil))) (dCall 86 (dCons (dVar 1) (dCons (dVar 2) dNil)))))
    [(2, fun e => some (.str (if subX e.cls 0 && !subX e.cls 6 then "size" else "other"))), (6, fun e => some (.str (if subX e.cls 0 && !subX e.cls 2 then "answers" else "other")))])
def b_parse_list : Sx :=
  (sSeq (sIf (dNot (dPrim .isStr (dCons (dVar 0) dNil)))
    (sRaiseL (dC .none))
    sPass)
    (sSeq (sAsg 1 (dPrim .lst dNil))
    (sSeq (sFor (iEnum (dSpl (dVar 0) (dC (.str " ")))) (.tp [(.nm 2), (.nm 3)])
    (sSeq (sIf (dOr (dPrim .ne (dCons (dPrim .len (dCons (dVar 3) dNil)) (dCons (dC (.int 3)) dNil))) (dOr (dPrim .ne (dCons (dPrim .ix (dCons (dVar 3) (dCons (dC (.int 1)) dNil))) (dCons (dC (.str "-")) dNil))) (dOr (dPrim .notin (dCons (dPrim .ix (dCons (dVar 3) (dCons (dC (.int 0)) dNil))) (dCons (dC (.str "0123456789")) dNil))) (dPrim .notin (dCons (dPrim .ix (dCons (dVar 3) (dCons (dC (.int 2)) dNil))) (dCons (dC (.str "0123456789")) dNil))))))
    (sRaiseL (dVar 2))
    sPass)
    (sAppend 1 (dPrim .tup (dCons (dSix (dC (.str "0123456789")) (dPrim .ix (dCons (dVar 3) (dCons (dC (.int 0)) dNil)))) (dCons (dSix (dC (.str "0123456789")) (dPrim .ix (dCons (dVar 3) (dCons (dC (.int 2)) dNil)))) dNil))))))
    (sSeq (sAsg 4 (dPrim .add (dCons (dPrim .len (dCons (dVar 1) dNil)) (dCons (dC (.int 1)) dNil))))
    (sSeq (sIf (dOr (dPrim .gt (dCons (dVar 4) (dCons (dC (.int 6)) dNil))) (dNot (dCall 4 (dCons (dVar 4) (dCons (dPrim .tuple (dCons (dVar 1) dNil)) (dCons (dPrim .sub (dCons (dVar 4) (dCons (dC (.int 1)) dNil))) dNil))))))
    (sRaiseL (dC .none))
    sPass)
    (sRet (dPrim .tup (dCons (dVar 4) (dCons (dPrim .tuple (dCons (dVar 1) dNil)) dNil)))))))))
def b__law_parse : Sx :=
  (sTry (sRet (dCall 88 (dCons (dVar 0) dNil)))
    [(1, fun e => if e.cls = 1 then some (.list [.str "line", e.line]) else none)])
def b__law_worked : Sx :=
  (sTry (sRet (dIte (dPrim .eq (dCons (dVar 1) (dCons (dC (.int 0)) dNil))) (dMt 101 "push" (dVar 0) (dCons (dVar 2) dNil)) (dMt 105 "undo" (dVar 0) dNil)))
    [(3, fun e => some (.str (if subX e.cls 0 && !subX e.cls 4 then "list" else "other"))), (10, fun e => some (.str (if subX e.cls 0 && !subX e.cls 3 then "nothing" else "other")))])
def b__law_raise : Sx :=
  (sSeq (sAsg 1 (dPrim .tup (dCons (dPrim .tup (dCons (dC (.int 0)) (dCons (dC (.int 1)) dNil))) (dCons (dPrim .tup (dCons (dC (.int 1)) (dCons (dC (.int 2)) dNil))) dNil))))
    (sSeq (sIf (dPrim .eq (dCons (dVar 0) (dCons (dC (.int 0)) dNil)))
    (sRet (dCall 64 (dCons (dC (.int 7)) dNil)))
    sPass)
    (sSeq (sIf (dPrim .eq (dCons (dVar 0) (dCons (dC (.int 1)) dNil)))
    (sRet (dCall 11 (dCons (dC (.int 3)) (dCons (dPrim .tup (dCons (dPrim .tup (dCons (dC (.int 0)) (dCons (dC (.int 1)) dNil))) dNil)) dNil))))
    sPass)
    (sSeq (sIf (dPrim .eq (dCons (dVar 0) (dCons (dC (.int 2)) dNil)))
    (sRet (dCall 54 (dCons (dC (.int 3)) (dCons (dVar 1) (dCons (dC (.int 1)) dNil)))))
    sPass)
    (sSeq (sIf (dPrim .eq (dCons (dVar 0) (dCons (dC (.int 3)) dNil)))
    (sRet (dCall 72 (dCons (dC (.int 3)) (dCons (dPrim .tup (dCons (dPrim .tup (dCons (dC (.int 0)) (dCons (dC (.int 1)) dNil))) (dCons (dPrim .tup (dCons (dC (.int 0)) (dCons (dC (.int 1)) dNil))) dNil))) dNil))))
    sPass)
    (sSeq (sIf (dPrim .eq (dCons (dVar 0) (dCons (dC (.int 4)) dNil)))
    (sRet (dCall 85 (dCons (dC (.int 3)) (dCons (dPrim .tup (dCons (dPrim .tup (dCons (dC (.int 3)) (dCons (dC (.int 0)) (dCons (dC (.int 0)) dNil)))) dNil)) dNil))))
    sPass)
    (sSeq (sIf (dPrim .eq (dCons (dVar 0) (dCons (dC (.int 5)) dNil)))
    (sRet (dCall 57 (dCons (dC (.int 3)) (dCons (dVar 1) dNil))))
    sPass)
    (sSeq (sIf (dPrim .eq (dCons (dVar 0) (dCons (dC (.int 6)) dNil)))
    (sRet (dCall 44 (dCons (dC (.int 3)) (dCons (dPrim .rev (dCons (dVar 1) dNil)) dNil))))
    sPass)
    (sSeq (sIf (dPrim .eq (dCons (dVar 0) (dCons (dC (.int 7)) dNil)))
    (sRet (dCall 61 (dCons (dC (.int 3)) (dCons (dVar 1) dNil))))
    sPass)
    (sRet (dIte (dPrim .eq (dCons (dVar 0) (dCons (dC (.int 8)) dNil))) (dCall 88 (dCons (dC (.str "0-1 x")) dNil)) (dMt 105 "undo" (dMk 96 (dCons (dC (.int 3)) dNil)) dNil))))))))))))
def b__law_asked : Sx :=
  (sSeq (sIf (dPrim .eq (dCons (dVar 0) (dCons (dC (.int 0)) dNil)))
    (sRet (dCall 9 (dCons (dVar 1) (dCons (dVar 1) dNil))))
    sPass)
    (sSeq (sIf (dPrim .eq (dCons (dVar 0) (dCons (dC (.int 1)) dNil)))
    (sRet (dCall 13 (dCons (dC (.int 3)) (dCons (dVar 1) (dCons (dVar 1) dNil)))))
    sPass)
    (sSeq (sIf (dPrim .eq (dCons (dVar 0) (dCons (dC (.int 2)) dNil)))
    (sRet (dCall 13 (dCons (dVar 1) (dCons (dVar 1) (dCons (dVar 1) dNil)))))
    sPass)
    (sSeq (sIf (dPrim .eq (dCons (dVar 0) (dCons (dC (.int 3)) dNil)))
    (sRet (dCall 54 (dCons (dC (.int 3)) (dCons (dVar 1) (dCons (dVar 1) dNil)))))
    sPass)
    (sSeq (sIf (dPrim .eq (dCons (dVar 0) (dCons (dC (.int 4)) dNil)))
    (sRet (dCall 56 (dCons (dC (.int 3)) (dCons (dVar 1) (dCons (dVar 1) dNil)))))
    sPass)
    (sSeq (sIf (dPrim .eq (dCons (dVar 0) (dCons (dC (.int 5)) dNil)))
    (sRet (dCall 56 (dCons (dC (.int 3)) (dCons (dPrim .tup (dCons (dPrim .tup (dCons (dC (.int 0)) (dCons (dC (.int 1)) dNil))) (dCons (dPrim .tup (dCons (dC (.int 0)) (dCons (dC (.int 1)) dNil))) dNil))) (dCons (dVar 1) dNil)))))
    sPass)
    (sSeq (sIf (dPrim .eq (dCons (dVar 0) (dCons (dC (.int 6)) dNil)))
    (sRet (dCall 59 (dCons (dC (.int 3)) (dCons (dPrim .tup (dCons (dPrim .tup (dCons (dC (.int 0)) (dCons (dC (.int 1)) dNil))) (dCons (dPrim .tup (dCons (dC (.int 0)) (dCons (dC (.int 1)) dNil))) dNil))) (dCons (dVar 1) dNil)))))
    sPass)
    (sSeq (sIf (dPrim .eq (dCons (dVar 0) (dCons (dC (.int 7)) dNil)))
    (sRet (dCall 59 (dCons (dVar 1) (dCons (dVar 1) (dCons (dVar 1) dNil)))))
    sPass)
    (sSeq (sIf (dPrim .eq (dCons (dVar 0) (dCons (dC (.int 8)) dNil)))
    (sRet (dCall 36 (dCons (dC (.int 3)) (dCons (dPrim .tup (dCons (dPrim .tup (dCons (dC (.int 0)) (dCons (dC (.int 1)) dNil))) (dCons (dPrim .tup (dCons (dC (.int 0)) (dCons (dC (.int 1)) dNil))) dNil))) (dCons (dVar 1) dNil)))))
    sPass)
    (sSeq (sIf (dPrim .eq (dCons (dVar 0) (dCons (dC (.int 9)) dNil)))
    (sRet (dCall 81 (dCons (dVar 1) (dCons (dVar 1) dNil))))
    sPass)
    (sSeq (sIf (dPrim .eq (dCons (dVar 0) (dCons (dC (.int 10)) dNil)))
    (sRet (dCall 72 (dCons (dVar 1) (dCons (dVar 1) dNil))))
    sPass)
    (sRet (dCall 85 (dCons (dVar 1) (dCons (dVar 1) dNil)))))))))))))))
def b__law_failed : Sx :=
  (sSeq (sTry (sSeq (sIf (dPrim .eq (dCons (dVar 1) (dCons (dC (.int 0)) dNil)))
    (sExpr (dMt 101 "push" (dVar 0) (dCons (dVar 2) dNil)))
    sPass)
    (sSeq (sIf (dPrim .eq (dCons (dVar 1) (dCons (dC (.int 1)) dNil)))
    (sExpr (dMt 105 "undo" (dVar 0) dNil))
    sPass)
    (sSeq (sIf (dPrim .eq (dCons (dVar 1) (dCons (dC (.int 2)) dNil)))
    (sExpr (dMt 101 "push" (dVar 0) (dCons (dPrim .tup (dCons (dC (.int 0)) (dCons (dC (.int 9)) dNil))) dNil)))
    sPass)
    (sIf (dPrim .eq (dCons (dVar 1) (dCons (dC (.int 3)) dNil)))
    (sExpr (dMt 101 "push" (dVar 0) (dCons (dPrim .tup (dCons (dC (.int 1)) (dCons (dC (.int 0)) dNil))) dNil)))
    sPass))))
    [(0, fun e => some (.bool true))])
    (sRet (dC (.bool false))))
def b__law_listed_bad : Sx :=
  (sSeq (sTry (sIf (dPrim .eq (dCons (dVar 0) (dCons (dC (.int 0)) dNil)))
    (sExpr (dCall 9 (dCons (dVar 1) (dCons (dVar 2) dNil))))
    (sIf (dPrim .eq (dCons (dVar 0) (dCons (dC (.int 1)) dNil)))
    (sExpr (dCall 17 (dCons (dVar 1) (dCons (dVar 2) dNil))))
    (sIf (dPrim .eq (dCons (dVar 0) (dCons (dC (.int 2)) dNil)))
    (sExpr (dCall 18 (dCons (dVar 1) (dCons (dVar 2) dNil))))
    (sIf (dPrim .eq (dCons (dVar 0) (dCons (dC (.int 3)) dNil)))
    (sExpr (dCall 11 (dCons (dVar 1) (dCons (dVar 2) dNil))))
    (sIf (dPrim .eq (dCons (dVar 0) (dCons (dC (.int 4)) dNil)))
    (sExpr (dCall 26 (dCons (dVar 1) (dCons (dVar 2) dNil))))
    (sExpr (dCall 24 (dCons (dVar 1) (dCons (dVar 2) (dCons (dC .none) dNil))))))))))
    [(2, fun e => some (.str (if subX e.cls 0 && !subX e.cls 3 then "size" else "other"))), (3, fun e => some (.str (if subX e.cls 0 && !subX e.cls 2 then "list" else "other")))])
    (sRet (dC (.str "none"))))
def b__law_is_exchange : Sx :=
  (sSeq (sIf (dOr (dNot (dPrim .isTuple (dCons (dVar 1) dNil))) (dOr (dPrim .ne (dCons (dPrim .len (dCons (dVar 1) dNil)) (dCons (dC (.int 2)) dNil))) (dNot (dCall 46 (dCons (dPrim .ix (dCons (dVar 1) (dCons (dC (.int 0)) dNil))) (dCons (dC (.int 0)) (dCons (dPrim .sub (dCons (dVar 0) (dCons (dC (.int 2)) dNil))) dNil)))))))
    (sRet (dC (.bool false)))
    sPass)
    (sRet (dCall 46 (dCons (dPrim .ix (dCons (dVar 1) (dCons (dC (.int 1)) dNil))) (dCons (dPrim .add (dCons (dPrim .ix (dCons (dVar 1) (dCons (dC (.int 0)) dNil))) (dCons (dC (.int 1)) dNil))) (dCons (dPrim .sub (dCons (dVar 0) (dCons (dC (.int 1)) dNil))) dNil))))))
def b_W___init__ : Sx :=
  (sSeq (sExpr (dCall 2 (dCons (dVar 1) dNil)))
    (sSeq (sFld (dVar 0) "size" (dVar 1))
    (sSeq (sFld (dVar 0) "row" (dPrim .tup dNil))
    (sFld (dVar 0) "kept" (dC (.int 0))))))
def b_W___len__ : Sx :=
  (sRet (dPrim .len (dCons (dFld (dVar 0) "row") dNil)))
def b_W___str__ : Sx :=
  (sRet (dPrim .str (dCons (dIte (dFld (dVar 0) "row") (dCall 25 (dCons (dFld (dVar 0) "row") dNil)) (dC (.str "none"))) dNil)))
def b_W___eq__ : Sx :=
  (sSeq (sIf (dNot (dIsO (dVar 1)))
    (sRet (dC (.bool false)))
    sPass)
    (sRet (dAnd (dPrim .eq (dCons (dFld (dVar 0) "size") (dCons (dFld (dVar 1) "size") dNil))) (dPrim .eq (dCons (dFld (dVar 0) "row") (dCons (dFld (dVar 1) "row") dNil))))))
def b_W_exchanges : Sx :=
  (sRet (dFld (dVar 0) "row"))
def b_W_push : Sx :=
  (sSeq (sIf (dOr (dNot (dCall 3 (dCons (dFld (dVar 0) "size") (dCons (dVar 1) dNil)))) (dPrim .eq (dCons (dPrim .len (dCons (dFld (dVar 0) "row") dNil)) (dCons (dPrim .sub (dCons (dFld (dVar 0) "size") (dCons (dC (.int 1)) dNil))) dNil))))
    (sRaise 3)
    sPass)
    (sSeq (sFld (dVar 0) "row" (dPrim .add (dCons (dFld (dVar 0) "row") (dCons (dPrim .tup (dCons (dVar 1) dNil)) dNil))))
    (sRet (dPrim .gt (dCons (dCall 16 (dCons (dFld (dVar 0) "size") (dCons (dFld (dVar 0) "row") dNil))) (dCons (dC (.int 0)) dNil))))))
def b_W_options : Sx :=
  (sRet (dCall 18 (dCons (dFld (dVar 0) "size") (dCons (dFld (dVar 0) "row") dNil))))
def b_W_groups : Sx :=
  (sRet (dCall 12 (dCons (dFld (dVar 0) "size") (dCons (dFld (dVar 0) "row") dNil))))
def b_W_is_done : Sx :=
  (sRet (dCall 10 (dCons (dFld (dVar 0) "size") (dCons (dFld (dVar 0) "row") dNil))))
def b_W_undo : Sx :=
  (sSeq (sIf (dPrim .le (dCons (dPrim .len (dCons (dFld (dVar 0) "row") dNil)) (dCons (dFld (dVar 0) "kept") dNil)))
    (sRaise 10)
    sPass)
    (sSeq (sAsg 1 (dPrim .ix (dCons (dFld (dVar 0) "row") (dCons (dPrim .neg (dCons (dC (.int 1)) dNil)) dNil))))
    (sSeq (sFld (dVar 0) "row" (dPrim .slH (dCons (dFld (dVar 0) "row") (dCons (dPrim .neg (dCons (dC (.int 1)) dNil)) dNil))))
    (sRet (dVar 1)))))
def b_W_duplicate : Sx :=
  (sSeq (sAsg 1 (dMk 96 (dCons (dFld (dVar 0) "size") dNil)))
    (sSeq (sFld (dVar 1) "row" (dFld (dVar 0) "row"))
    (sSeq (sFld (dVar 1) "kept" (dPrim .len (dCons (dFld (dVar 0) "row") dNil)))
    (sRet (dVar 1)))))
def f_in_range : Fd := ⟨3, 3, b_in_range⟩
def f_check_size : Fd := ⟨1, 1, b_check_size⟩
def f_is_exchange : Fd := ⟨2, 2, b_is_exchange⟩
def f_are_exchanges : Fd := ⟨3, 4, b_are_exchanges⟩
def f_check_list : Fd := ⟨2, 2, b_check_list⟩
def f_check_part : Fd := ⟨2, 2, b_check_part⟩
def f_moved : Fd := ⟨2, 2, b_moved⟩
def f_result_of : Fd := ⟨2, 6, b_result_of⟩
def f_result : Fd := ⟨2, 2, b_result⟩
def f_is_round_list : Fd := ⟨2, 2, b_is_round_list⟩
def f_is_round : Fd := ⟨2, 2, b_is_round⟩
def f_groups_of : Fd := ⟨2, 6, b_groups_of⟩
def f_groups : Fd := ⟨3, 3, b_groups⟩
def f_every_exchange : Fd := ⟨1, 3, b_every_exchange⟩
def f_rest_groups : Fd := ⟨2, 9, b_rest_groups⟩
def f_completions_of : Fd := ⟨2, 7, b_completions_of⟩
def f_count_completions : Fd := ⟨2, 2, b_count_completions⟩
def f_next_exchanges : Fd := ⟨2, 3, b_next_exchanges⟩
def f_cross : Fd := ⟨2, 5, b_cross⟩
def f_far_end : Fd := ⟨3, 3, b_far_end⟩
def f_wrong_turns : Fd := ⟨2, 9, b_wrong_turns⟩
def f_crossings : Fd := ⟨1, 6, b_crossings⟩
def f_closing : Fd := ⟨2, 7, b_closing⟩
def f_is_paper : Fd := ⟨3, 4, b_is_paper⟩
def f_written : Fd := ⟨1, 3, b_written⟩
def f_format_list : Fd := ⟨2, 2, b_format_list⟩
def f_chords_of : Fd := ⟨2, 2, b_chords_of⟩
def f__law_cell : Fd := ⟨2, 2, b__law_cell⟩
def f__law_row : Fd := ⟨2, 5, b__law_row⟩
def f__law_pairs : Fd := ⟨1, 4, b__law_pairs⟩
def f__law_to : Fd := ⟨2, 2, b__law_to⟩
def f__law_round : Fd := ⟨3, 10, b__law_round⟩
def f__law_list : Fd := ⟨3, 7, b__law_list⟩
def f__law_error : Fd := ⟨3, 4, b__law_error⟩
def f_check_round : Fd := ⟨2, 2, b_check_round⟩
def f_remaining_groups : Fd := ⟨3, 4, b_remaining_groups⟩
def f__law_result : Fd := ⟨2, 5, b__law_result⟩
def f__law_is_round : Fd := ⟨2, 3, b__law_is_round⟩
def f__law_groups : Fd := ⟨2, 9, b__law_groups⟩
def f__law_grouped : Fd := ⟨4, 5, b__law_grouped⟩
def f__law_between : Fd := ⟨2, 2, b__law_between⟩
def f__law_crossed : Fd := ⟨2, 3, b__law_crossed⟩
def f_first_fault : Fd := ⟨2, 4, b_first_fault⟩
def f_paper : Fd := ⟨2, 3, b_paper⟩
def f__law_whole : Fd := ⟨1, 1, b__law_whole⟩
def f__law_in : Fd := ⟨3, 3, b__law_in⟩
def f__law_loop : Fd := ⟨2, 7, b__law_loop⟩
def f__law_is_paper : Fd := ⟨3, 9, b__law_is_paper⟩
def f__law_paper : Fd := ⟨2, 3, b__law_paper⟩
def f_through : Fd := ⟨2, 3, b_through⟩
def f_check_number : Fd := ⟨2, 2, b_check_number⟩
def f_later_of : Fd := ⟨2, 4, b_later_of⟩
def f_earlier_of : Fd := ⟨2, 4, b_earlier_of⟩
def f_move_later : Fd := ⟨3, 3, b_move_later⟩
def f_move_earlier : Fd := ⟨3, 3, b_move_earlier⟩
def f_turned : Fd := ⟨3, 5, b_turned⟩
def f_rolled : Fd := ⟨2, 3, b_rolled⟩
def f__law_shifted : Fd := ⟨4, 5, b__law_shifted⟩
def f_road : Fd := ⟨3, 9, b_road⟩
def f__law_road : Fd := ⟨3, 4, b__law_road⟩
def f_complete : Fd := ⟨2, 3, b_complete⟩
def f__law_all : Fd := ⟨2, 7, b__law_all⟩
def f__law_completed : Fd := ⟨2, 3, b__law_completed⟩
def f_count_lists : Fd := ⟨1, 1, b_count_lists⟩
def f_lists_from : Fd := ⟨2, 4, b_lists_from⟩
def f_all_lists : Fd := ⟨1, 1, b_all_lists⟩
def f_is_plain_tree : Fd := ⟨2, 5, b_is_plain_tree⟩
def f_is_tree : Fd := ⟨2, 4, b_is_tree⟩
def f_earlier_chords : Fd := ⟨3, 7, b_earlier_chords⟩
def f_check_tree : Fd := ⟨2, 2, b_check_tree⟩
def f_orders_of : Fd := ⟨3, 6, b_orders_of⟩
def f_lists_of : Fd := ⟨2, 2, b_lists_of⟩
def f__law_treed : Fd := ⟨2, 3, b__law_treed⟩
def f__law_is_tree : Fd := ⟨2, 4, b__law_is_tree⟩
def f__law_orders : Fd := ⟨1, 6, b__law_orders⟩
def f_trees_from : Fd := ⟨3, 8, b_trees_from⟩
def f_all_trees : Fd := ⟨1, 1, b_all_trees⟩
def f_least_places : Fd := ⟨2, 4, b_least_places⟩
def f_are_places : Fd := ⟨2, 3, b_are_places⟩
def f_fitting : Fd := ⟨3, 5, b_fitting⟩
def f_from_places : Fd := ⟨2, 3, b_from_places⟩
def f__law_placed : Fd := ⟨3, 4, b__law_placed⟩
def f_place_after : Fd := ⟨3, 5, b_place_after⟩
def f_check_answers : Fd := ⟨2, 4, b_check_answers⟩
def f_candidates : Fd := ⟨2, 7, b_candidates⟩
def f_best_question : Fd := ⟨2, 10, b_best_question⟩
def f__law_hidden : Fd := ⟨3, 4, b__law_hidden⟩
def f_parse_list : Fd := ⟨1, 5, b_parse_list⟩
def f__law_parse : Fd := ⟨1, 2, b__law_parse⟩
def f__law_worked : Fd := ⟨3, 4, b__law_worked⟩
def f__law_raise : Fd := ⟨1, 2, b__law_raise⟩
def f__law_asked : Fd := ⟨2, 2, b__law_asked⟩
def f__law_failed : Fd := ⟨3, 4, b__law_failed⟩
def f__law_listed_bad : Fd := ⟨3, 4, b__law_listed_bad⟩
def f__law_is_exchange : Fd := ⟨2, 2, b__law_is_exchange⟩
def f_W___init__ : Fd := ⟨2, 2, b_W___init__⟩
def f_W___len__ : Fd := ⟨1, 1, b_W___len__⟩
def f_W___str__ : Fd := ⟨1, 1, b_W___str__⟩
def f_W___eq__ : Fd := ⟨2, 2, b_W___eq__⟩
def f_W_exchanges : Fd := ⟨1, 1, b_W_exchanges⟩
def f_W_push : Fd := ⟨2, 2, b_W_push⟩
def f_W_options : Fd := ⟨1, 1, b_W_options⟩
def f_W_groups : Fd := ⟨1, 1, b_W_groups⟩
def f_W_is_done : Fd := ⟨1, 1, b_W_is_done⟩
def f_W_undo : Fd := ⟨1, 2, b_W_undo⟩
def f_W_duplicate : Fd := ⟨1, 2, b_W_duplicate⟩
abbrev i_in_range : Nat := 1
abbrev i_check_size : Nat := 2
abbrev i_is_exchange : Nat := 3
abbrev i_are_exchanges : Nat := 4
abbrev i_check_list : Nat := 5
abbrev i_check_part : Nat := 6
abbrev i_moved : Nat := 7
abbrev i_result_of : Nat := 8
abbrev i_result : Nat := 9
abbrev i_is_round_list : Nat := 10
abbrev i_is_round : Nat := 11
abbrev i_groups_of : Nat := 12
abbrev i_groups : Nat := 13
abbrev i_every_exchange : Nat := 14
abbrev i_rest_groups : Nat := 15
abbrev i_completions_of : Nat := 16
abbrev i_count_completions : Nat := 17
abbrev i_next_exchanges : Nat := 18
abbrev i_cross : Nat := 19
abbrev i_far_end : Nat := 20
abbrev i_wrong_turns : Nat := 21
abbrev i_crossings : Nat := 22
abbrev i_closing : Nat := 23
abbrev i_is_paper : Nat := 24
abbrev i_written : Nat := 25
abbrev i_format_list : Nat := 26
abbrev i_chords_of : Nat := 27
abbrev i__law_cell : Nat := 28
abbrev i__law_row : Nat := 29
abbrev i__law_pairs : Nat := 30
abbrev i__law_to : Nat := 31
abbrev i__law_round : Nat := 32
abbrev i__law_list : Nat := 33
abbrev i__law_error : Nat := 34
abbrev i_check_round : Nat := 35
abbrev i_remaining_groups : Nat := 36
abbrev i__law_result : Nat := 37
abbrev i__law_is_round : Nat := 38
abbrev i__law_groups : Nat := 39
abbrev i__law_grouped : Nat := 40
abbrev i__law_between : Nat := 41
abbrev i__law_crossed : Nat := 42
abbrev i_first_fault : Nat := 43
abbrev i_paper : Nat := 44
abbrev i__law_whole : Nat := 45
abbrev i__law_in : Nat := 46
abbrev i__law_loop : Nat := 47
abbrev i__law_is_paper : Nat := 48
abbrev i__law_paper : Nat := 49
abbrev i_through : Nat := 50
abbrev i_check_number : Nat := 51
abbrev i_later_of : Nat := 52
abbrev i_earlier_of : Nat := 53
abbrev i_move_later : Nat := 54
abbrev i_move_earlier : Nat := 55
abbrev i_turned : Nat := 56
abbrev i_rolled : Nat := 57
abbrev i__law_shifted : Nat := 58
abbrev i_road : Nat := 59
abbrev i__law_road : Nat := 60
abbrev i_complete : Nat := 61
abbrev i__law_all : Nat := 62
abbrev i__law_completed : Nat := 63
abbrev i_count_lists : Nat := 64
abbrev i_lists_from : Nat := 65
abbrev i_all_lists : Nat := 66
abbrev i_is_plain_tree : Nat := 67
abbrev i_is_tree : Nat := 68
abbrev i_earlier_chords : Nat := 69
abbrev i_check_tree : Nat := 70
abbrev i_orders_of : Nat := 71
abbrev i_lists_of : Nat := 72
abbrev i__law_treed : Nat := 73
abbrev i__law_is_tree : Nat := 74
abbrev i__law_orders : Nat := 75
abbrev i_trees_from : Nat := 76
abbrev i_all_trees : Nat := 77
abbrev i_least_places : Nat := 78
abbrev i_are_places : Nat := 79
abbrev i_fitting : Nat := 80
abbrev i_from_places : Nat := 81
abbrev i__law_placed : Nat := 82
abbrev i_place_after : Nat := 83
abbrev i_check_answers : Nat := 84
abbrev i_candidates : Nat := 85
abbrev i_best_question : Nat := 86
abbrev i__law_hidden : Nat := 87
abbrev i_parse_list : Nat := 88
abbrev i__law_parse : Nat := 89
abbrev i__law_worked : Nat := 90
abbrev i__law_raise : Nat := 91
abbrev i__law_asked : Nat := 92
abbrev i__law_failed : Nat := 93
abbrev i__law_listed_bad : Nat := 94
abbrev i__law_is_exchange : Nat := 95
abbrev i_W___init__ : Nat := 96
abbrev i_W___len__ : Nat := 97
abbrev i_W___str__ : Nat := 98
abbrev i_W___eq__ : Nat := 99
abbrev i_W_exchanges : Nat := 100
abbrev i_W_push : Nat := 101
abbrev i_W_options : Nat := 102
abbrev i_W_groups : Nat := 103
abbrev i_W_is_done : Nat := 104
abbrev i_W_undo : Nat := 105
abbrev i_W_duplicate : Nat := 106
end Rx

set_option Elab.async false
set_option linter.all false
set_option maxRecDepth 100000
set_option maxHeartbeats 1000000
set_option autoImplicit false
namespace Rx
open PySem L2

/-! ### values and data -/
mutual
inductive Rp (F : Hp) : V → D → Prop
  | non : Rp F .non .none
  | bl (b : Bool) : Rp F (.bl b) (.bool b)
  | int (i : Int) : Rp F (.int i) (.int i)
  | str (x : Str) : Rp F (.str x) (.str x)
  | lst {a : Addr} {vs : List V} {ds : List D} : F a = some (.lst vs) → RpAll F vs ds → Rp F (.ref a) (.list ds)
  | tup {a : Addr} {vs : List V} {ds : List D} : F a = some (.tup vs) → RpAll F vs ds → Rp F (.ref a) (.tuple ds)
inductive RpAll (F : Hp) : List V → List D → Prop
  | nil : RpAll F [] []
  | cons {v : V} {vs : List V} {d : D} {ds : List D} : Rp F v d → RpAll F vs ds → RpAll F (v :: vs) (d :: ds)
end
mutual
theorem Rp.mono {F F' : Hp} (s : Same F F') : ∀ (d : D) (v : V), Rp F v d → Rp F' v d
  | .none, _, h => by cases h; exact .non
  | .bool b, _, h => by cases h; exact .bl b
  | .int i, _, h => by cases h; exact .int i
  | .str x, _, h => by cases h; exact .str x
  | .list ds, _, h => by
    cases h with
    | lst e r => exact .lst (s _ _ e) (RpAll.mono s ds _ r)
  | .tuple ds, _, h => by
    cases h with
    | tup e r => exact .tup (s _ _ e) (RpAll.mono s ds _ r)
  | .dict _, _, h => by cases h
theorem RpAll.mono {F F' : Hp} (s : Same F F') : ∀ (ds : List D) (vs : List V), RpAll F vs ds → RpAll F' vs ds
  | [], _, h => by cases h; exact .nil
  | d :: ds, _, h => by
    cases h with
    | cons r t => exact .cons (Rp.mono s d _ r) (RpAll.mono s ds _ t)
end
mutual
theorem Rp.dp {K : PySem.W.Frag} {F : Hp} : ∀ (d : D) (v : V), Rp F v d → Dp K F v d
  | .none, _, h => by cases h; exact .non
  | .bool b, _, h => by cases h; exact .bl b
  | .int i, _, h => by cases h; exact .int i
  | .str x, _, h => by cases h; exact .str x
  | .list ds, _, h => by
    cases h with
    | lst e r => exact .lst (.inl (.inl e)) (RpAll.dp ds _ r)
  | .tuple ds, _, h => by
    cases h with
    | tup e r => exact .tup (.inl (.inl e)) (RpAll.dp ds _ r)
  | .dict _, _, h => by cases h
theorem RpAll.dp {K : PySem.W.Frag} {F : Hp} : ∀ (ds : List D) (vs : List V), RpAll F vs ds → DpAll K F vs ds
  | [], _, h => by cases h; exact .nil
  | d :: ds, _, h => by
    cases h with
    | cons r t => exact .cons (Rp.dp d _ r) (RpAll.dp ds _ t)
end
theorem RpAll.length {F : Hp} : ∀ {ds : List D} {vs : List V}, RpAll F vs ds → vs.length = ds.length
  | [], _, h => by cases h; rfl
  | d :: ds, _, h => by
    cases h with
    | cons r t => simp [RpAll.length t]
theorem RpAll.get {F : Hp} : ∀ {ds : List D} {vs : List V} {i : Nat} {d : D}, RpAll F vs ds → ds[i]? = some d → ∃ v, vs[i]? = some v ∧ Rp F v d
  | [], _, _, _, _, e => by simp at e
  | _ :: ds, _, 0, d, h, e => by
    cases h with
    | cons r t => simp at e; subst e; exact ⟨_, rfl, r⟩
  | _ :: ds, _, i + 1, d, h, e => by
    cases h with
    | cons r t =>
      obtain ⟨v, h1, h2⟩ := RpAll.get (i := i) t (by simpa using e)
      exact ⟨v, by simpa using h1, h2⟩
theorem RpAll.getV {F : Hp} : ∀ {ds : List D} {vs : List V} {i : Nat} {v : V}, RpAll F vs ds → vs[i]? = some v → ∃ d, ds[i]? = some d ∧ Rp F v d
  | [], _, _, _, h, e => by cases h; simp at e
  | _ :: ds, _, 0, v, h, e => by
    cases h with
    | cons r t => simp at e; subst e; exact ⟨_, rfl, r⟩
  | _ :: ds, _, i + 1, v, h, e => by
    cases h with
    | cons r t =>
      obtain ⟨d, h1, h2⟩ := RpAll.getV (i := i) t (by simpa using e)
      exact ⟨d, by simpa using h1, h2⟩
theorem RpAll.append {F : Hp} : ∀ {ds es : List D} {vs us : List V}, RpAll F vs ds → RpAll F us es → RpAll F (vs ++ us) (ds ++ es)
  | [], _, _, _, h, g => by cases h; exact g
  | d :: ds, _, _, _, h, g => by
    cases h with
    | cons r t => exact .cons r (RpAll.append t g)
theorem RpAll.take {F : Hp} : ∀ {ds : List D} {vs : List V} (n : Nat), RpAll F vs ds → RpAll F (vs.take n) (ds.take n)
  | _, _, 0, _ => .nil
  | [], _, n + 1, h => by cases h; exact .nil
  | d :: ds, _, n + 1, h => by
    cases h with
    | cons r t => exact .cons r (RpAll.take n t)
theorem RpAll.drop {F : Hp} : ∀ {ds : List D} {vs : List V} (n : Nat), RpAll F vs ds → RpAll F (vs.drop n) (ds.drop n)
  | _, _, 0, h => h
  | [], _, n + 1, h => by cases h; exact .nil
  | d :: ds, _, n + 1, h => by
    cases h with
    | cons r t => exact RpAll.drop n t
theorem RpAll.set {F : Hp} {v : V} {d : D} (r : Rp F v d) : ∀ {ds : List D} {vs : List V} (n : Nat), RpAll F vs ds → RpAll F (vs.set n v) (ds.set n d)
  | [], _, _, h => by cases h; exact .nil
  | _ :: ds, _, 0, h => by
    cases h with
    | cons _ t => exact .cons r t
  | _ :: ds, _, n + 1, h => by
    cases h with
    | cons q t => exact .cons q (RpAll.set r n t)
theorem RpAll.reverse {F : Hp} : ∀ {ds : List D} {vs : List V}, RpAll F vs ds → RpAll F vs.reverse ds.reverse
  | [], _, h => by cases h; exact .nil
  | d :: ds, _, h => by
    cases h with
    | cons r t =>
      rw [List.reverse_cons, List.reverse_cons]
      exact RpAll.append (RpAll.reverse t) (.cons r .nil)

/-! ### worker objects, the script, a list that is changed in place -/
def Rt (K : PySem.W.Frag) (A : List Addr) (F : Hp) (v : V) (d : D) : Prop :=
  Rp F v d ∨ (∃ (i : Nat) (a : Addr), d = dObj i ∧ A[i]? = some a ∧ v = .ref a) ∨ (∃ (a : Addr) (ns : List Int), d = dScript ns ∧ v = .ref a ∧ SqL K F a (ns.map V.int)) ∨
    (∃ (a : Addr) (ns : List Int), d = dX ns ∧ v = .ref a ∧ ∃ o : Obj, F a = some (.frz o (.tup (ns.map V.int))) ∧ o.cls = .type "tuple" ∧ o.dict = none)
theorem Rt.plain {K : PySem.W.Frag} {A : List Addr} {F : Hp} {v : V} {d : D} (h : Rt K A F v d) (p : plain d = true) : Rp F v d := by
  rcases h with h | ⟨i, a, rfl, _⟩ | ⟨a, ns, rfl, _⟩ | ⟨a, ns, rfl, _⟩
  · exact h
  · simp [dObj, Rx.plain] at p
  · simp [dScript, Rx.plain] at p
  · simp [dX, Rx.plain] at p
def Ow (F H : Hp) (v : V) (d : D) : Prop := ∃ (p : Addr) (vs : List V) (ds : List D), v = .ref p ∧ d = .list ds ∧ H p = some (.lst vs) ∧ F p = none ∧ RpAll F vs ds
def Ro (K : PySem.W.Frag) (A : List Addr) (F H : Hp) (v : V) (d : D) : Prop := Rt K A F v d ∨ Ow F H v d
inductive RoAll (K : PySem.W.Frag) (A : List Addr) (F H : Hp) : List V → List D → Prop
  | nil : RoAll K A F H [] []
  | cons {v : V} {vs : List V} {d : D} {ds : List D} : Ro K A F H v d → RoAll K A F H vs ds → RoAll K A F H (v :: vs) (d :: ds)
inductive RtAll (K : PySem.W.Frag) (A : List Addr) (F : Hp) : List V → List D → Prop
  | nil : RtAll K A F [] []
  | cons {v : V} {vs : List V} {d : D} {ds : List D} : Rt K A F v d → RtAll K A F vs ds → RtAll K A F (v :: vs) (d :: ds)
theorem RtAll.ro {K : PySem.W.Frag} {A : List Addr} {F H : Hp} : ∀ {vs : List V} {ds : List D}, RtAll K A F vs ds → RoAll K A F H vs ds
  | _, _, .nil => .nil
  | _, _, .cons a b => .cons (.inl a) b.ro
theorem RtAll.length {K : PySem.W.Frag} {A : List Addr} {F : Hp} : ∀ {vs : List V} {ds : List D}, RtAll K A F vs ds → vs.length = ds.length
  | _, _, .nil => rfl
  | _, _, .cons _ b => by simp [b.length]
theorem RtAll.plain {K : PySem.W.Frag} {A : List Addr} {F : Hp} : ∀ {vs : List V} {ds : List D}, RtAll K A F vs ds → ds.all Rx.plain = true → RpAll F vs ds
  | _, _, .nil, _ => .nil
  | _, _, .cons a b, p => by
    simp only [List.all_cons, Bool.and_eq_true] at p
    exact .cons (a.plain p.1) (b.plain p.2)

def isIns : HO → Bool
  | .ins _ _ _ => true
  | _ => false
/-- how the heaps go on: F what stands for good, H all that is tracked -/
structure Step (A : List Addr) (F H : Hp) (A' : List Addr) (F' H' : Hp) : Prop where
  ext : ∃ B, A' = A ++ B
  ff : Same F F'
  fh : Same F' H'
  hh : ∀ p o, H p = some o → isIns o = false → H' p = some o
  ins : ∀ p C dx fs, H p = some (.ins C dx fs) → ∃ fs', H' p = some (.ins C dx fs')
  old : ∀ p o, H p = some o → F' p = F p
theorem Step.refl {A : List Addr} {F H : Hp} (h : Same F H) : Step A F H A F H := ⟨⟨[], by simp⟩, .refl _, h, fun _ _ e _ => e, fun _ _ _ fs e => ⟨fs, e⟩, fun _ _ _ => rfl⟩
theorem Step.trans {A A1 A2 : List Addr} {F F1 F2 H H1 H2 : Hp} (a : Step A F H A1 F1 H1) (b : Step A1 F1 H1 A2 F2 H2) : Step A F H A2 F2 H2 := by
  refine ⟨?_, a.ff.trans b.ff, b.fh, fun p o e i => b.hh p o (a.hh p o e i) i, fun p C dx fs e => ?_, fun p o e => ?_⟩
  · obtain ⟨B1, e1⟩ := a.ext
    obtain ⟨B2, e2⟩ := b.ext
    exact ⟨B1 ++ B2, by rw [e2, e1, List.append_assoc]⟩
  · obtain ⟨f1, e1⟩ := a.ins p C dx fs e
    exact b.ins p C dx f1 e1
  · cases hi : isIns o with
    | false => rw [b.old p o (a.hh p o e hi), a.old p o e]
    | true =>
      cases o with
      | ins C dx fs =>
        obtain ⟨f1, e1⟩ := a.ins p C dx fs e
        rw [b.old p _ e1, a.old p _ e]
      | _ => cases hi
theorem Step.new {A : List Addr} {F H : Hp} {p : Addr} {o : HO} (h : Same F H) (n : H p = none) : Step A F H A (upd F p o) (upd H p o) := by
  have nf : F p = none := Same.free h n
  refine ⟨⟨[], by simp⟩, fun b u e => ?_, fun b u e => ?_, fun b u e _ => ?_, fun b C dx fs e => ⟨fs, ?_⟩, fun b u e => ?_⟩
  · rw [upd_ne (ne_of_none e nf)]; exact e
  · by_cases hb : b = p
    · subst hb; rw [upd_same] at e ⊢; exact e
    · rw [upd_ne hb] at e ⊢; exact h b u e
  · rw [upd_ne (ne_of_none e n)]; exact e
  · rw [upd_ne (ne_of_none e n)]; exact e
  · rw [upd_ne (ne_of_none e n)]
/-- a new object that is not for good -/
theorem Step.newO {A : List Addr} {F H : Hp} {p : Addr} {o : HO} (h : Same F H) (n : H p = none) : Step A F H A F (upd H p o) := by
  refine ⟨⟨[], by simp⟩, .refl _, fun b u e => ?_, fun b u e _ => ?_, fun b C dx fs e => ⟨fs, ?_⟩, fun b u e => rfl⟩
  · have := h b u e
    rw [upd_ne (ne_of_none this n)]; exact this
  · rw [upd_ne (ne_of_none e n)]; exact e
  · rw [upd_ne (ne_of_none e n)]; exact e
theorem sql_mono {K : PySem.W.Frag} {F F' : Hp} {a : Addr} {xs : List V} (s : Same F F') (h : SqL K F a xs) : SqL K F' a xs := s.seq h
theorem Rt.step {K : PySem.W.Frag} {A A' : List Addr} {F F' H H' : Hp} {v : V} {d : D} (s : Step A F H A' F' H') (h : Rt K A F v d) : Rt K A' F' v d := by
  rcases h with h | ⟨i, a, e, ha, hv⟩ | ⟨a, ns, e, hv, hq⟩ | ⟨a, ns, e, hv, o, hq, ho⟩
  · exact .inl (h.mono s.ff)
  · obtain ⟨B, eB⟩ := s.ext
    refine .inr (.inl ⟨i, a, e, ?_, hv⟩)
    rw [eB]
    obtain ⟨hl, _⟩ := List.getElem?_eq_some_iff.mp ha
    rw [List.getElem?_append_left hl]; exact ha
  · exact .inr (.inr (.inl ⟨a, ns, e, hv, sql_mono s.ff hq⟩))
  · exact .inr (.inr (.inr ⟨a, ns, e, hv, o, s.ff _ _ hq, ho⟩))
theorem Ow.step {A A' : List Addr} {F F' H H' : Hp} {v : V} {d : D} (s : Step A F H A' F' H') (h : Ow F H v d) : Ow F' H' v d := by
  obtain ⟨p, vs, ds, e1, e2, hp, fp, r⟩ := h
  exact ⟨p, vs, ds, e1, e2, s.hh p _ hp rfl, by rw [s.old p _ hp]; exact fp, r.mono s.ff⟩
theorem Ro.step {K : PySem.W.Frag} {A A' : List Addr} {F F' H H' : Hp} {v : V} {d : D} (s : Step A F H A' F' H') (h : Ro K A F H v d) : Ro K A' F' H' v d := by
  rcases h with h | h
  · exact .inl (h.step s)
  · exact .inr (h.step s)
theorem RoAll.step {K : PySem.W.Frag} {A A' : List Addr} {F F' H H' : Hp} (s : Step A F H A' F' H') : ∀ {vs : List V} {ds : List D}, RoAll K A F H vs ds → RoAll K A' F' H' vs ds
  | _, _, .nil => .nil
  | _, _, .cons a b => .cons (a.step s) (b.step s)
theorem RtAll.step {K : PySem.W.Frag} {A A' : List Addr} {F F' H H' : Hp} (s : Step A F H A' F' H') : ∀ {vs : List V} {ds : List D}, RtAll K A F vs ds → RtAll K A' F' vs ds
  | _, _, .nil => .nil
  | _, _, .cons a b => .cons (a.step s) (b.step s)

/-- the fields of an instance -/
abbrev FldR (F : Hp) : List (Str × V) → List (Str × D) → Prop := Paired fun p q => p.1 = q.1 ∧ Rp F p.2 q.2
/-- the worker objects -/
structure Omg (C : Addr) (A : List Addr) (F H : Hp) (w : Om) : Prop where
  len : A.length = w.length
  nd : A.Nodup
  at_ : ∀ (i : Nat) (a : Addr) (fs : Fs), A[i]? = some a → w[i]? = some fs → ∃ dx vs, H a = some (.ins C dx vs) ∧ F a = none ∧ FldR F vs fs
theorem FldR.mono {F F' : Hp} (s : Same F F') : ∀ {vs : List (Str × V)} {fs : List (Str × D)}, FldR F vs fs → FldR F' vs fs
  | _, _, .nil => .nil
  | _, _, .cons r t => .cons ⟨r.1, r.2.mono s⟩ (FldR.mono s t)
/-- nothing of the objects changes -/
theorem Omg.new {C : Addr} {A : List Addr} {F H F' H' : Hp} {w : Om} (o : Omg C A F H w) (s : Step A F H A F' H') (k : ∀ p u, H p = some u → H' p = some u) : Omg C A F' H' w := by
  refine ⟨o.len, o.nd, fun i a fs h1 h2 => ?_⟩
  obtain ⟨dx, vs, e1, e2, r⟩ := o.at_ i a fs h1 h2
  exact ⟨dx, vs, k _ _ e1, by rw [s.old a _ e1]; exact e2, r.mono s.ff⟩

/-! ### slots -/
def ownd (M : List Nat) (i : Nat) (d : D) : Bool := M.contains i && isLst d
structure Rel (K : PySem.W.Frag) (C : Addr) (M : List Nat) (A : List Addr) (F H : Hp) (σ : St) (r : Env) (w : Om) : Prop where
  fh : Same F H
  om : Omg C A F H w
  len : σ.length = r.length
  fro : ∀ (i : Nat) (d : D), r[i]? = some (some d) → ownd M i d = false → ∃ v, σ[i]? = some (some v) ∧ Rt K A F v d
  own : ∀ (i : Nat) (d : D), r[i]? = some (some d) → ownd M i d = true → ∃ v, σ[i]? = some (some v) ∧ Ow F H v d
  dis : ∀ (i j : Nat) (d e : D) (p : Addr), i ≠ j → r[i]? = some (some d) → r[j]? = some (some e) → ownd M i d = true → ownd M j e = true → σ[i]? = some (some (.ref p)) → σ[j]? ≠ some (some (.ref p))
theorem Rel.step {K : PySem.W.Frag} {C : Addr} {M : List Nat} {A A' : List Addr} {F H F' H' : Hp} {σ : St} {r : Env} {w w' : Om} (h : Rel K C M A F H σ r w) (s : Step A F H A' F' H') (o : Omg C A' F' H' w') : Rel K C M A' F' H' σ r w' := by
  refine ⟨s.fh, o, h.len, fun i d e q => ?_, fun i d e q => ?_, h.dis⟩
  · obtain ⟨v, e1, e2⟩ := h.fro i d e q
    exact ⟨v, e1, e2.step s⟩
  · obtain ⟨v, e1, e2⟩ := h.own i d e q
    exact ⟨v, e1, e2.step s⟩
theorem Rel.ro {K : PySem.W.Frag} {C : Addr} {M : List Nat} {A : List Addr} {F H : Hp} {σ : St} {r : Env} {w : Om} (h : Rel K C M A F H σ r w) {i : Nat} {d : D} (e : r[i]? = some (some d)) : ∃ v, σ[i]? = some (some v) ∧ Ro K A F H v d := by
  cases q : ownd M i d with
  | false =>
    obtain ⟨v, e1, e2⟩ := h.fro i d e q
    exact ⟨v, e1, .inl e2⟩
  | true =>
    obtain ⟨v, e1, e2⟩ := h.own i d e q
    exact ⟨v, e1, .inr e2⟩
theorem ownd_of {M : List Nat} {i : Nat} {d : D} (h : ownd M i d = true) : isLst d = true := by
  unfold ownd at h
  rw [Bool.and_eq_true] at h
  exact h.2

/-! ### the readings -/
/-- what is fixed through a body: the written part, the class of the workers, the slots of lists changed in place, what is wanted of an exception, the callees, the exceptions' classes -/
structure Cg where
  K : PySem.W.Frag
  C : Addr
  M : List Nat
  W : WX
  c : Cf
  ec : Nat → Option Value
  A0 : List Addr
  F0 : Hp
  H0 : Hp
/-- an exception's value -/
def XRep (ec : Nat → Option Value) (F H : Hp) (cls : Value) (dd : Option Addr) (x : Xn) : Prop :=
  ec x.cls = some cls ∧ ((x.cls ≠ 1 ∧ dd = none) ∨ (x.cls = 1 ∧ ∃ d v, dd = some d ∧ H d = some (.xd [("line", v)]) ∧ Rp F v x.line))
def Post (G : Cg) (rp : List Addr → Hp → Hp → V → D → Prop) (Q : VK) (σ : St) (A : List Addr) (F H : Hp) : R → Om → Prop
  | .val d, w => ∀ v A' F' H', Step A F H A' F' H' → Omg G.C A' F' H' w → rp A' F' H' v d → Q v H'
  | .exc x, w => ∀ cls dd A' F' H', Step A F H A' F' H' → Omg G.C A' F' H' w → XRep G.ec F' H' cls dd x → G.W cls dd σ H'
def PostL (G : Cg) (rp : List Addr → Hp → Hp → List V → List D → Prop) (Q : List V → Hp → Prop) (σ : St) (A : List Addr) (F H : Hp) : RL → Om → Prop
  | .vals ds, w => ∀ vs A' F' H', Step A F H A' F' H' → Omg G.C A' F' H' w → rp A' F' H' vs ds → Q vs H'
  | .exc x, w => ∀ cls dd A' F' H', Step A F H A' F' H' → Omg G.C A' F' H' w → XRep G.ec F' H' cls dd x → G.W cls dd σ H'
/-- an expression whose value stands for good; .. that may be a list of a slot -/
def tD (G : Cg) (e : Ex) : TE := fun σ H Q => ∃ A F r w x w', Rel G.K G.C G.M A F H σ r w ∧ e G.c r w = some (x, w') ∧ Post G (fun A F _ v d => Rt G.K A F v d) Q σ A F H x w'
def tO (G : Cg) (e : Ex) : TE := fun σ H Q => ∃ A F r w x w', Rel G.K G.C G.M A F H σ r w ∧ e G.c r w = some (x, w') ∧ Post G (fun A F H v d => Ro G.K A F H v d) Q σ A F H x w'
def tDs (G : Cg) (e : Exs) : TA := fun σ H Q => ∃ A F r w x w', Rel G.K G.C G.M A F H σ r w ∧ e G.c r w = some (x, w') ∧ PostL G (fun A F _ v d => RtAll G.K A F v d) Q σ A F H x w'
def tOs (G : Cg) (e : Exs) : TA := fun σ H Q => ∃ A F r w x w', Rel G.K G.C G.M A F H σ r w ∧ e G.c r w = some (x, w') ∧ PostL G (fun A F H v d => RoAll G.K A F H v d) Q σ A F H x w'
theorem peI {X : Cx} {e : Expr} {t t' : TE} (h : PE X e t) (i : ∀ σ H Q, t' σ H Q → t σ H Q) : PE X e t' := ⟨fun pins s σ H Q I q => h.run pins s σ H Q I (i σ H Q q)⟩
theorem paI {X : Cx} {e : List Expr} {t t' : TA} (h : PA X e t) (i : ∀ σ H Q, t' σ H Q → t σ H Q) : PA X e t' := ⟨fun pos pins s σ H Q I q => h.run pos pins s σ H Q I (i σ H Q q)⟩
theorem ptI {X : Cx} {e : Expr} {t t' : TT} (h : PT X e t) (i : ∀ σ H Q, t' σ H Q → t σ H Q) : PT X e t' := ⟨fun pins s σ H Q I q => h.run pins s σ H Q I (i σ H Q q)⟩
theorem pwI {X : Cx} {e : Expr} {t t' : TT} (h : PW X e t) (i : ∀ σ H Q, t' σ H Q → t σ H Q) : PW X e t' := ⟨fun wh pins s σ H Q I q => h.run wh pins s σ H Q I (i σ H Q q)⟩
theorem psI {X : Cx} {e : Stmt} {t t' : TS} (h : PS X e t) (i : ∀ Dd σ H, t' Dd σ H → t Dd σ H) : PS X e t' := ⟨fun pins s σ H Dd I q => h.run pins s σ H Dd I (i Dd σ H q)⟩
theorem pssI {X : Cx} {e : List Stmt} {t t' : TS} (h : PSs X e t) (i : ∀ Dd σ H, t' Dd σ H → t Dd σ H) : PSs X e t' := ⟨fun pins s σ H Dd I q => h.run pins s σ H Dd I (i Dd σ H q)⟩
theorem piI {X : Cx} {tg e : Expr} {t t' : TI} (h : PI X tg e t) (i : ∀ σ H Q, t' σ H Q → t σ H Q) : PI X tg e t' := ⟨fun pins s σ H Q I q => h.run pins s σ H Q I (i σ H Q q)⟩
theorem poOf {X : Cx} {G : Cg} {e : Expr} {d : Ex} (h : PE X e (tD G d)) : PE X e (tO G d) := peI h fun σ H Q ⟨A, F, r, w, x, w', h1, h2, h3⟩ => ⟨A, F, r, w, x, w', h1, h2, by
  cases x with
  | val d => exact fun v A' F' H' s o q => h3 v A' F' H' s o (.inl q)
  | exc x => exact h3⟩
end Rx

set_option Elab.async false
set_option linter.all false
set_option maxRecDepth 100000
set_option maxHeartbeats 1000000
set_option autoImplicit false
namespace Rx
open PySem L2

/-! ### what stands for what -/
section
variable {K : PySem.W.Frag} {A : List Addr} {F H : Hp} {v : V}
theorem Ro.int {i : Int} (h : Ro K A F H v (.int i)) : v = .int i := by
  rcases h with (h | ⟨_, _, e, _⟩ | ⟨_, _, e, _⟩ | ⟨_, _, e, _⟩) | ⟨_, _, _, _, e, _⟩
  · cases h; rfl
  · cases e
  · cases e
  · cases e
  · cases e
theorem Ro.bl {b : Bool} (h : Ro K A F H v (.bool b)) : v = .bl b := by
  rcases h with (h | ⟨_, _, e, _⟩ | ⟨_, _, e, _⟩ | ⟨_, _, e, _⟩) | ⟨_, _, _, _, e, _⟩
  · cases h; rfl
  · cases e
  · cases e
  · cases e
  · cases e
theorem Ro.str {x : Str} (h : Ro K A F H v (.str x)) : v = .str x := by
  rcases h with (h | ⟨_, _, e, _⟩ | ⟨_, _, e, _⟩ | ⟨_, _, e, _⟩) | ⟨_, _, _, _, e, _⟩
  · cases h; rfl
  · cases e
  · cases e
  · cases e
  · cases e
theorem Ro.non (h : Ro K A F H v .none) : v = .non := by
  rcases h with (h | ⟨_, _, e, _⟩ | ⟨_, _, e, _⟩ | ⟨_, _, e, _⟩) | ⟨_, _, _, _, e, _⟩
  · cases h; rfl
  · cases e
  · cases e
  · cases e
  · cases e
theorem Ro.tup {ds : List D} (h : Ro K A F H v (.tuple ds)) : ∃ a vs, v = .ref a ∧ F a = some (.tup vs) ∧ RpAll F vs ds := by
  rcases h with (h | ⟨_, _, e, _⟩ | ⟨_, _, e, _⟩ | ⟨_, _, e, _⟩) | ⟨_, _, _, _, e, _⟩
  · cases h with
    | tup e r => exact ⟨_, _, rfl, e, r⟩
  · cases e
  · cases e
  · cases e
  · cases e
theorem Ro.lst {ds : List D} (s : Same F H) (h : Ro K A F H v (.list ds)) : ∃ a vs, v = .ref a ∧ H a = some (.lst vs) ∧ RpAll F vs ds := by
  rcases h with (h | ⟨_, _, e, _⟩ | ⟨_, _, e, _⟩ | ⟨_, _, e, _⟩) | ⟨p, vs, ds', e1, e2, hp, _, r⟩
  · cases h with
    | lst e r => exact ⟨_, _, rfl, s _ _ e, r⟩
  · cases e
  · cases e
  · cases e
  · cases e2
    exact ⟨p, vs, e1, hp, r⟩
theorem Ro.script {xs : List D} (s : Same F H) (h : Ro K A F H v (.dict [(.none, .list xs)])) : ∃ (a : Addr) (ns : List Int), xs = ns.map .int ∧ v = .ref a ∧ SqL K H a (ns.map V.int) := by
  rcases h with (h | ⟨_, _, e, _⟩ | ⟨a, ns, e, ev, q⟩ | ⟨_, _, e, _⟩) | ⟨_, _, _, _, e, _⟩
  · cases h
  · unfold dObj at e; injection e with e; injection e with e _; injection e with e _; cases e
  · unfold dScript at e
    injection e with e; injection e with e _; injection e with _ e; injection e with e
    exact ⟨a, ns, e, ev, sql_mono s q⟩
  · unfold dX at e; injection e with e; injection e with e _; injection e with e _; cases e
  · cases e
theorem Ro.xt {xs : List D} (h : Ro K A F H v (.dict [(.bool true, .tuple xs)])) : ∃ (a : Addr) (ns : List Int), xs = ns.map .int ∧ v = .ref a ∧ ∃ o : Obj, F a = some (.frz o (.tup (ns.map V.int))) ∧ o.cls = .type "tuple" ∧ o.dict = none := by
  rcases h with (h | ⟨_, _, e, _⟩ | ⟨_, _, e, _⟩ | ⟨a, ns, e, ev, q⟩) | ⟨_, _, _, _, e, _⟩
  · cases h
  · unfold dObj at e; injection e with e; injection e with e _; injection e with e _; cases e
  · unfold dScript at e; injection e with e; injection e with e _; injection e with e _; cases e
  · unfold dX at e
    injection e with e; injection e with e _; injection e with _ e; injection e with e
    exact ⟨a, ns, e, ev, q⟩
  · cases e
/-- data as the library reads it -/
theorem Ro.dp {d : D} (s : Same F H) (h : Ro K A F H v d) (p : plain d = true) : Dp K H v d := by
  rcases h with h | ⟨q, vs, ds, e1, e2, hq, _, r⟩
  · exact ((h.plain p).mono s).dp
  · subst e1 e2
    exact .lst (.inl (.inl hq)) ((r.mono s).dp)
theorem dp_ints : ∀ (ns : List Int), DpAll K H (ns.map V.int) (ns.map .int)
  | [] => .nil
  | n :: ns => .cons (.int n) (dp_ints ns)
theorem Ro.dpN {d : D} (s : Same F H) (h : Ro K A F H v d) (p : plain (norm d) = true) : Dp K H v (norm d) := by
  unfold norm at p ⊢
  split at p
  · obtain ⟨a, ns, rfl, rfl, o, hf, _⟩ := h.xt
    exact .tup (.inl (.inr ⟨o, s _ _ hf⟩)) (dp_ints ns)
  · exact h.dp s p
end
theorem shal_plain : ∀ {n : Nat} {d : D}, shal n d = true → plain d = true
  | _, .none, _ => rfl
  | _, .bool _, _ => rfl
  | _, .int _, _ => rfl
  | _, .str _, _ => rfl
  | _, .list _, _ => rfl
  | _, .tuple _, _ => rfl
  | 0, .dict _, h => by simp [shal] at h
  | n + 1, .dict _, h => by simp [shal] at h

/-! ### arguments -/
section
variable {G : Cg} {σ : St} {H : Hp}
theorem tOs_nil {Q : List V → Hp → Prop} (h : tOs G dNil σ H Q) : Q [] H := by
  obtain ⟨A, F, r, w, x, w', rel, e, post⟩ := h
  cases e
  exact post [] A F H (.refl rel.fh) rel.om .nil
theorem tDs_nil {Q : List V → Hp → Prop} (h : tDs G dNil σ H Q) : Q [] H := by
  obtain ⟨A, F, r, w, x, w', rel, e, post⟩ := h
  cases e
  exact post [] A F H (.refl rel.fh) rel.om .nil
theorem tOs_cons {a : Ex} {es : Exs} {Q : List V → Hp → Prop} (h : tOs G (dCons a es) σ H Q) : tO G a σ H fun x H1 => tOs G es σ H1 fun xs H2 => Q (x :: xs) H2 := by
  obtain ⟨A, F, r, w, x, w', rel, e, post⟩ := h
  unfold dCons at e
  cases ha : a G.c r w with
  | none => rw [ha] at e; cases e
  | some p =>
    obtain ⟨x1, w1⟩ := p
    rw [ha] at e
    cases x1 with
    | exc y => cases e; exact ⟨A, F, r, w, .exc y, _, rel, ha, post⟩
    | val d =>
      refine ⟨A, F, r, w, .val d, w1, rel, ha, fun v A1 F1 H1 s1 o1 r1 => ?_⟩
      simp only at e
      cases hs : es G.c r w1 with
      | none => rw [hs] at e; cases e
      | some p =>
        obtain ⟨x2, w2⟩ := p
        rw [hs] at e
        cases x2 with
        | exc y => cases e; exact ⟨A1, F1, r, w1, .exc y, _, rel.step s1 o1, hs, fun cls dd A2 F2 H2 s2 o2 q => post cls dd A2 F2 H2 (s1.trans s2) o2 q⟩
        | vals ds => cases e; exact ⟨A1, F1, r, w1, .vals ds, _, rel.step s1 o1, hs, fun vs A2 F2 H2 s2 o2 q => post (v :: vs) A2 F2 H2 (s1.trans s2) o2 (.cons (r1.step s2) q)⟩
theorem tDs_cons {a : Ex} {es : Exs} {Q : List V → Hp → Prop} (h : tDs G (dCons a es) σ H Q) : tD G a σ H fun x H1 => tDs G es σ H1 fun xs H2 => Q (x :: xs) H2 := by
  obtain ⟨A, F, r, w, x, w', rel, e, post⟩ := h
  unfold dCons at e
  cases ha : a G.c r w with
  | none => rw [ha] at e; cases e
  | some p =>
    obtain ⟨x1, w1⟩ := p
    rw [ha] at e
    cases x1 with
    | exc y => cases e; exact ⟨A, F, r, w, .exc y, _, rel, ha, post⟩
    | val d =>
      refine ⟨A, F, r, w, .val d, w1, rel, ha, fun v A1 F1 H1 s1 o1 r1 => ?_⟩
      simp only at e
      cases hs : es G.c r w1 with
      | none => rw [hs] at e; cases e
      | some p =>
        obtain ⟨x2, w2⟩ := p
        rw [hs] at e
        cases x2 with
        | exc y => cases e; exact ⟨A1, F1, r, w1, .exc y, _, rel.step s1 o1, hs, fun cls dd A2 F2 H2 s2 o2 q => post cls dd A2 F2 H2 (s1.trans s2) o2 q⟩
        | vals ds => cases e; exact ⟨A1, F1, r, w1, .vals ds, _, rel.step s1 o1, hs, fun vs A2 F2 H2 s2 o2 q => post (v :: vs) A2 F2 H2 (s1.trans s2) o2 (.cons (r1.step s2) q)⟩
/-- what is wanted behind -/
def Fin (G : Cg) (A : List Addr) (F H : Hp) (w : Om) (d : D) (Q : VK) : Prop := ∀ v A' F' H', Step A F H A' F' H' → Omg G.C A' F' H' w → Rt G.K A' F' v d → Q v H'
/-- at the values: the data, what the primitive gives -/
def Kp (G : Cg) (p : Pr) (Q : VK) (vs : List V) (H : Hp) : Prop := ∃ A F w ds d, Same F H ∧ Omg G.C A F H w ∧ RoAll G.K A F H vs ds ∧ prim p ds = some d ∧ Fin G A F H w d Q
/-- .. operands that stand for good -/
def Kd (G : Cg) (p : Pr) (Q : VK) (vs : List V) (H : Hp) : Prop := ∃ A F w ds d, Same F H ∧ Omg G.C A F H w ∧ RtAll G.K A F vs ds ∧ prim p ds = some d ∧ Fin G A F H w d Q
theorem prim_args {p : Pr} {es : Exs} {Q : VK} (h : tD G (dPrim p es) σ H Q) : tOs G es σ H (Kp G p Q) := by
  obtain ⟨A, F, r, w, x, w', rel, e, post⟩ := h
  unfold dPrim at e
  cases hs : es G.c r w with
  | none => rw [hs] at e; cases e
  | some q =>
    obtain ⟨x1, w1⟩ := q
    rw [hs] at e
    cases x1 with
    | exc y => cases e; exact ⟨A, F, r, w, .exc y, _, rel, hs, post⟩
    | vals ds =>
      simp only at e
      cases hp : prim p ds with
      | none => rw [hp] at e; cases e
      | some d =>
        rw [hp] at e; cases e
        exact ⟨A, F, r, w, .vals ds, _, rel, hs, fun vs A1 F1 H1 s1 o1 r1 => ⟨A1, F1, _, ds, d, s1.fh, o1, r1, hp, fun v A2 F2 H2 s2 o2 r2 => post v A2 F2 H2 (s1.trans s2) o2 r2⟩⟩
theorem prim_argsD {p : Pr} {es : Exs} {Q : VK} (h : tD G (dPrim p es) σ H Q) : tDs G es σ H (Kd G p Q) := by
  obtain ⟨A, F, r, w, x, w', rel, e, post⟩ := h
  unfold dPrim at e
  cases hs : es G.c r w with
  | none => rw [hs] at e; cases e
  | some q =>
    obtain ⟨x1, w1⟩ := q
    rw [hs] at e
    cases x1 with
    | exc y => cases e; exact ⟨A, F, r, w, .exc y, _, rel, hs, post⟩
    | vals ds =>
      simp only at e
      cases hp : prim p ds with
      | none => rw [hp] at e; cases e
      | some d =>
        rw [hp] at e; cases e
        exact ⟨A, F, r, w, .vals ds, _, rel, hs, fun vs A1 F1 H1 s1 o1 r1 => ⟨A1, F1, _, ds, d, s1.fh, o1, r1, hp, fun v A2 F2 H2 s2 o2 r2 => post v A2 F2 H2 (s1.trans s2) o2 r2⟩⟩
theorem tO_imp {a : Ex} {Q Q' : VK} (h : tO G a σ H Q) (i : ∀ v H, Q v H → Q' v H) : tO G a σ H Q' := by
  obtain ⟨A, F, r, w, x, w', rel, e, post⟩ := h
  refine ⟨A, F, r, w, x, w', rel, e, ?_⟩
  cases x with
  | val d => exact fun v A' F' H' s o q => i _ _ (post v A' F' H' s o q)
  | exc x => exact post
theorem tD_imp {a : Ex} {Q Q' : VK} (h : tD G a σ H Q) (i : ∀ v H, Q v H → Q' v H) : tD G a σ H Q' := by
  obtain ⟨A, F, r, w, x, w', rel, e, post⟩ := h
  refine ⟨A, F, r, w, x, w', rel, e, ?_⟩
  cases x with
  | val d => exact fun v A' F' H' s o q => i _ _ (post v A' F' H' s o q)
  | exc x => exact post
theorem args1 {a : Ex} {Q : List V → Hp → Prop} (h : tOs G (dCons a dNil) σ H Q) : tO G a σ H fun x H1 => Q [x] H1 := tO_imp (tOs_cons h) fun _ _ h => tOs_nil h
theorem args2 {a b : Ex} {Q : List V → Hp → Prop} (h : tOs G (dCons a (dCons b dNil)) σ H Q) : tO G a σ H fun x H1 => tO G b σ H1 fun y H2 => Q [x, y] H2 := tO_imp (tOs_cons h) fun _ _ h => tO_imp (tOs_cons h) fun _ _ h => tOs_nil h
theorem args3 {a b c : Ex} {Q : List V → Hp → Prop} (h : tOs G (dCons a (dCons b (dCons c dNil))) σ H Q) : tO G a σ H fun x H1 => tO G b σ H1 fun y H2 => tO G c σ H2 fun z H3 => Q [x, y, z] H3 := tO_imp (tOs_cons h) fun _ _ h => tO_imp (tOs_cons h) fun _ _ h => tO_imp (tOs_cons h) fun _ _ h => tOs_nil h

/-! ### ends -/
variable {A : List Addr} {F : Hp} {w : Om} {d : D} {Q : VK}
theorem Fin.same (s : Same F H) (o : Omg G.C A F H w) (f : Fin G A F H w d Q) {v : V} (r : Rt G.K A F v d) : Q v H := f v A F H (.refl s) o r
theorem Fin.new {p : Addr} {u : HO} {v : V} (s : Same F H) (o : Omg G.C A F H w) (f : Fin G A F H w d Q) (n : H p = none) (r : Rp (upd F p u) v d) : Q v (upd H p u) :=
  f v A (upd F p u) (upd H p u) (.new s n) (o.new (.new s n) fun b x e => by rw [upd_ne (ne_of_none e n)]; exact e) (.inl r)
theorem Fin.tup {p : Addr} {vs : List V} {ds : List D} (s : Same F H) (o : Omg G.C A F H w) (f : Fin G A F H w (.tuple ds) Q) (n : H p = none) (r : RpAll F vs ds) : Q (.ref p) (upd H p (.tup vs)) :=
  f.new s o n (.tup upd_same (r.mono (same_upd_ (s.free n))))
where same_upd_ {F : Hp} {p : Addr} {u : HO} (h : F p = none) : Same F (upd F p u) := fun b x e => by rw [upd_ne (ne_of_none e h)]; exact e
theorem Fin.lst {p : Addr} {vs : List V} {ds : List D} (s : Same F H) (o : Omg G.C A F H w) (f : Fin G A F H w (.list ds) Q) (n : H p = none) (r : RpAll F vs ds) : Q (.ref p) (upd H p (.lst vs)) :=
  f.new s o n (.lst upd_same (r.mono (Fin.tup.same_upd_ (s.free n))))
end
end Rx

set_option Elab.async false
set_option linter.all false
set_option maxRecDepth 100000
set_option maxHeartbeats 1000000
set_option autoImplicit false
namespace Rx
open PySem L2 PySem.Spec
theorem zl {n : Nat} (h : n ≤ zL) : n ≤ sizeLine := by rw [sizeLine_eq]; unfold zL at h; omega
theorem zlt {n : Nat} (h : n < zL) : n < sizeLine := by rw [sizeLine_eq]; unfold zL at h; omega
section
variable {X : Cx} {G : Cg} {a b c : Expr} {da db dc : Ex} {pos : Pos}
/-! ### names, constants -/
theorem po_var {i : Nat} {x : Str} (hN : X.N[i]? = some x) (hv : Vis X.env.scope x) (hd : (x == ("__debug__" : Str)) = false) (hcd : (x == ("__classdict__" : Str)) = false) : PE X (.Name x pos) (tO G (dVar i)) :=
  peI (pe_var hN hv hd hcd) fun σ H Q ⟨A, F, r, w, y, w', rel, e, post⟩ => by
    unfold dVar at e
    split at e
    · rename_i d hr
      cases e
      obtain ⟨v, e1, e2⟩ := rel.ro hr
      exact ⟨v, e1, post v A F H (.refl rel.fh) rel.om e2⟩
    · cases e
theorem pd_var {i : Nat} {x : Str} (hN : X.N[i]? = some x) (hv : Vis X.env.scope x) (hd : (x == ("__debug__" : Str)) = false) (hcd : (x == ("__classdict__" : Str)) = false) (hM : G.M.contains i = false) : PE X (.Name x pos) (tD G (dVar i)) :=
  peI (pe_var hN hv hd hcd) fun σ H Q ⟨A, F, r, w, y, w', rel, e, post⟩ => by
    unfold dVar at e
    split at e
    · rename_i d hr
      cases e
      obtain ⟨v, e1, e2⟩ := rel.fro i d hr (by unfold ownd; rw [hM]; rfl)
      exact ⟨v, e1, post v A F H (.refl rel.fh) rel.om e2⟩
    · cases e
theorem pd_varM {i : Nat} {x : Str} (hN : X.N[i]? = some x) (hv : Vis X.env.scope x) (hd : (x == ("__debug__" : Str)) = false) (hcd : (x == ("__classdict__" : Str)) = false) : PE X (.Name x pos) (tD G (dVarM i)) :=
  peI (pe_var hN hv hd hcd) fun σ H Q ⟨A, F, r, w, y, w', rel, e, post⟩ => by
    unfold dVarM at e
    split at e
    · rename_i d hr
      split at e
      · cases e
      · rename_i hl
        cases e
        obtain ⟨v, e1, e2⟩ := rel.fro i d hr (by unfold ownd; rw [Bool.eq_false_iff.mpr hl, Bool.and_false])
        exact ⟨v, e1, post v A F H (.refl rel.fh) rel.om e2⟩
    · cases e
theorem tC_of {v : V} {d : D} (r : ∀ F, Rp F v d) {σ : St} {H : Hp} {Q : VK} (h : tD G (dC d) σ H Q) : tC v σ H Q := by
  obtain ⟨A, F, r', w, y, w', rel, e, post⟩ := h
  cases e
  exact post v A F H (.refl rel.fh) rel.om (.inl (r F))
theorem pd_int {i : Int} {j : Nat} : PE X (.Constant (.int i) j pos) (tD G (dC (.int i))) := peI pe_int fun _ _ _ h => tC_of (fun _ => .int i) h
theorem pd_bl {i : Bool} {j : Nat} : PE X (.Constant (.bool i) j pos) (tD G (dC (.bool i))) := peI pe_bl fun _ _ _ h => tC_of (fun _ => .bl i) h
theorem pd_non {j : Nat} : PE X (.Constant .none j pos) (tD G (dC .none)) := peI pe_non fun _ _ _ h => tC_of (fun _ => .non) h
theorem pd_str {x : Str} {j : Nat} : PE X (.Constant (.str x) j pos) (tD G (dC (.str x))) := peI pe_str fun _ _ _ h => tC_of (fun _ => .str x) h
theorem pd_glob {x : Str} {d : D} {v : V} {u : Value} (hg : Gl X x) (hm : X.mg x = some u) (r : RelV v u) (rp : ∀ F, Rp F v d) (hd : (x == ("__debug__" : Str)) = false) : PE X (.Name x pos) (tD G (dC d)) := peI (pe_glob hg hm r hd) fun _ _ _ h => tC_of rp h

/-! ### operators -/
theorem RoAll2 {K : PySem.W.Frag} {A : List Addr} {F H : Hp} {x y : V} {ds : List D} (h : RoAll K A F H [x, y] ds) : ∃ d e, ds = [d, e] ∧ Ro K A F H x d ∧ Ro K A F H y e := by
  cases h with
  | cons a t =>
    cases t with
    | cons b u => cases u; exact ⟨_, _, rfl, a, b⟩
theorem RoAll1 {K : PySem.W.Frag} {A : List Addr} {F H : Hp} {x : V} {ds : List D} (h : RoAll K A F H [x] ds) : ∃ d, ds = [d] ∧ Ro K A F H x d := by
  cases h with
  | cons a t => cases t; exact ⟨_, rfl, a⟩
theorem pd_bin {op : Operator} {p : Pr} {r : R2} (ho : OpR X (binaryOp op) r) (hp : ∀ Q x y H, Kp G p Q [x, y] H → r x y H Q) (ha : PE X a (tO G da)) (hb : PE X b (tO G db)) : PE X (.BinOp a op b pos) (tD G (dPrim p (dCons da (dCons db dNil)))) :=
  peI (pe_op ho ha hb) fun σ H Q h => tO_imp (args2 (prim_args h)) fun x H1 q => tO_imp q fun y H2 k => hp Q x y H2 k
theorem pd_un {op : UnaryOp} {p : Pr} {r : V → Hp → VK → Prop} (ho : UnR X (unaryOp op) r) (hp : ∀ Q x H, Kp G p Q [x] H → r x H Q) (ha : PE X a (tO G da)) : PE X (.UnaryOp op a pos) (tD G (dPrim p (dCons da dNil))) :=
  peI (pe_un ho ha) fun σ H Q h => tO_imp (args1 (prim_args h)) fun x H1 k => hp Q x H1 k
theorem op_rep' : OpR X (binaryOp .Mult) rRep := op_rep
theorem pd_add (ha : PE X a (tO G da)) (hb : PE X b (tO G db)) : PE X (.BinOp a .Add b pos) (tD G (dPrim .add (dCons da (dCons db dNil)))) := by
  refine pd_bin (((op_add.or op_add_str).or op_catA).or op_cat) (fun Q x y H ⟨A, F, w, ds, d, s, o, ro, e, f⟩ => ?_) ha hb
  obtain ⟨d1, d2, rfl, r1, r2⟩ := RoAll2 ro
  replace e : addP d1 d2 = some d := e
  unfold addP at e
  split at e
  · cases e
    exact .inl (.inl (.inl ⟨_, _, r1.int, r2.int, f.same s o (.inl (.int _))⟩))
  · split at e
    · rename_i hz; cases e
      exact .inl (.inl (.inr ⟨_, _, r1.str, r2.str, zl hz, f.same s o (.inl (.str _))⟩))
    · cases e
  · split at e
    · rename_i hz; cases e
      obtain ⟨a1, v1, rfl, f1, q1⟩ := r1.tup
      obtain ⟨a2, v2, rfl, f2, q2⟩ := r2.tup
      refine .inl (.inr ⟨a1, a2, v1, v2, rfl, rfl, .inl (.inl (s _ _ f1)), .inl (.inl (s _ _ f2)), by rw [q1.length, q2.length]; exact zl hz, fun z => ?_, fun _ z => ?_, fun _ _ p hp => f.tup s o hp (q1.append q2)⟩)
      · subst z; cases q1; exact f.same s o (.inl (.tup f2 q2))
      · subst z; cases q2; rw [List.append_nil] at f; exact f.same s o (.inl (.tup f1 q1))
    · cases e
  · split at e
    · rename_i hz; cases e
      obtain ⟨a1, v1, rfl, f1, q1⟩ := r1.lst s
      obtain ⟨a2, v2, rfl, f2, q2⟩ := r2.lst s
      exact .inr ⟨a1, a2, v1, v2, rfl, rfl, f1, f2, by rw [q1.length, q2.length]; exact zl hz, fun p hp => f.lst s o hp (q1.append q2)⟩
    · cases e
  · cases e
theorem pd_sub (ha : PE X a (tO G da)) (hb : PE X b (tO G db)) : PE X (.BinOp a .Sub b pos) (tD G (dPrim .sub (dCons da (dCons db dNil)))) := by
  refine pd_bin op_sub (fun Q x y H ⟨A, F, w, ds, d, s, o, ro, e, f⟩ => ?_) ha hb
  obtain ⟨d1, d2, rfl, r1, r2⟩ := RoAll2 ro
  replace e : subP d1 d2 = some d := e
  unfold subP at e
  split at e
  · cases e; exact ⟨_, _, r1.int, r2.int, f.same s o (.inl (.int _))⟩
  · cases e

/-- t * 1 is t -/
theorem tuple_mul1 (l : Addr) (items : Array Value) (n : Nat) (dd : Option Addr) (sl : Array (Option Value)) (u : Tok) :
    Meets (Builtin.«tuple.__mul__» ⟨[.ref l, .int 1 u], []⟩) (fun _ R s => s.heap.get? l = some { cls := .type "tuple", dict := dd, data := .seq items n, slots := sl } ∧ R (.ok (.ret (.ref l))) s) :=
  .of_wp fun prog w A R s h => by
    obtain ⟨hp, g, d, tk, os⟩ := s
    obtain ⟨hl, h⟩ := h
    have f1 := AutoSeq1.idx_int
    wp_walk using wpAny_loadPart' hl
    exact ⟨_, rfl, h⟩
theorem op_repT1 : OpR X (binaryOp .Mult) (fun x y H Q => ∃ l xs, x = .ref l ∧ y = .int 1 ∧ SqT X.K H l xs ∧ Q (.ref l) H) := by
  intro pins s σ H x y v u Q I rx ry h
  obtain ⟨l, xs, rfl, rfl, hT, q⟩ := h
  cases rx
  obtain ⟨t, rfl⟩ := ry
  obtain ⟨its, r, ⟨⟨cls, dd, data, sl⟩, ho, hc, n, hd⟩, hs⟩ := I.tuple hT
  simp only at hc hd
  subst hc hd
  exact wpAny_binaryOp_repeat_ref (T := "tuple") (U := "int") (by decide) ⟨_, ho, rfl⟩ (fun s' => typeIs_int s' 1 t) noFill_tuple_mul F.fills_int_mul F.slot_int_rmul repeat_tuple F.slot_int_index.lookup
    (call_meets F.slot_int_rmul (typeIs_int s 1 t) F.entry_int_rmul (F.args_int_rmul_2 _ _) (int_rmul_tuple 1 t l its.toArray n dd sl)
      ⟨ho, rfl, ⟨_, ho, rfl⟩, call_meets F.slot_tuple_mul ⟨_, ho, rfl⟩ F.entry_tuple_mul (F.args_tuple_mul_2 _ _) (tuple_mul1 l its.toArray n dd sl t) ⟨ho, ⟨.ref l, H, I, rfl, q⟩⟩⟩)
theorem pd_mul (ha : PE X a (tO G da)) (hb : PE X b (tO G db)) : PE X (.BinOp a .Mult b pos) (tD G (dPrim .mul (dCons da (dCons db dNil)))) := by
  refine pd_bin (((op_mul.or op_rep).or op_repT).or op_repT1) (fun Q x y H ⟨A, F, w, ds, d, s, o, ro, e, f⟩ => ?_) ha hb
  obtain ⟨d1, d2, rfl, r1, r2⟩ := RoAll2 ro
  replace e : mulP d1 d2 = some d := e
  unfold mulP at e
  split at e
  · split at e
    · rename_i hz; cases e
      refine .inl (.inl (.inl ⟨_, _, r1.int, r2.int, ?_, f.same s o (.inl (.int _))⟩))
      rw [Bool.or_eq_true] at hz
      unfold small at hz
      simp only [Bool.and_eq_true, decide_eq_true_eq] at hz
      exact hz
    · cases e
  · split at e
    · rename_i hz; cases e
      obtain ⟨a1, v1, rfl, f1, q1⟩ := r1.lst s
      refine .inl (.inl (.inr ⟨a1, _, v1, rfl, r2.int, f1, by omega, by omega, ?_, fun p hp => f.lst s o hp (rp_rep q1 _)⟩))
      rw [q1.length, sizeLine_eq]
      have h1 := hz.2.2
      rename_i xs k _
      have h2 : k.toNat ≤ 1000 := by omega
      exact Nat.le_trans (Nat.mul_le_mul h1 h2) (by decide)
    · cases e
  · split at e
    · rename_i hz; cases e
      obtain ⟨a1, v1, rfl, f1, q1⟩ := r1.tup
      rename_i xs k _
      by_cases hk : k = 1
      · subst hk
        have e1 : (List.replicate (1 : Int).toNat xs).flatten = xs := by simp
        rw [e1] at f
        exact .inr ⟨a1, v1, rfl, r2.int, .inl (.inl (s _ _ f1)), f.same s o (.inl (.tup f1 q1))⟩
      · refine .inl (.inr ⟨a1, _, v1, rfl, r2.int, .inl (.inl (s _ _ f1)), ?_, by omega, hz.2.1, by rw [q1.length]; exact hz.2.2.1, fun p hp => f.tup s o hp (rp_rep q1 _)⟩)
        intro z; subst z; cases q1; exact hz.2.2.2 rfl
    · cases e
  · cases e
where rp_rep {F : Hp} {vs : List V} {ds : List D} (r : RpAll F vs ds) : ∀ n, RpAll F (List.replicate n vs).flatten (List.replicate n ds).flatten
  | 0 => .nil
  | n + 1 => by rw [List.replicate_succ, List.replicate_succ, List.flatten_cons, List.flatten_cons]; exact r.append (rp_rep r n)
theorem pd_fdiv (ha : PE X a (tO G da)) (hb : PE X b (tO G db)) : PE X (.BinOp a .FloorDiv b pos) (tD G (dPrim .fdiv (dCons da (dCons db dNil)))) := by
  refine pd_bin op_fdiv (fun Q x y H ⟨A, F, w, ds, d, s, o, ro, e, f⟩ => ?_) ha hb
  obtain ⟨d1, d2, rfl, r1, r2⟩ := RoAll2 ro
  replace e : fdivP d1 d2 = some d := e
  unfold fdivP at e
  split at e
  · split at e
    · rename_i hz; cases e; exact ⟨_, _, r1.int, r2.int, hz, f.same s o (.inl (.int _))⟩
    · cases e
  · cases e
theorem pd_mod (ha : PE X a (tO G da)) (hb : PE X b (tO G db)) : PE X (.BinOp a .Mod b pos) (tD G (dPrim .mod (dCons da (dCons db dNil)))) := by
  refine pd_bin op_mod (fun Q x y H ⟨A, F, w, ds, d, s, o, ro, e, f⟩ => ?_) ha hb
  obtain ⟨d1, d2, rfl, r1, r2⟩ := RoAll2 ro
  replace e : modP d1 d2 = some d := e
  unfold modP at e
  split at e
  · split at e
    · rename_i hz; cases e; exact ⟨_, _, r1.int, r2.int, hz, f.same s o (.inl (.int _))⟩
    · cases e
  · cases e
theorem pd_pow (ha : PE X a (tO G da)) (hb : PE X b (tO G db)) : PE X (.BinOp a .Pow b pos) (tD G (dPrim .pow (dCons da (dCons db dNil)))) := by
  refine pd_bin op_pow (fun Q x y H ⟨A, F, w, ds, d, s, o, ro, e, f⟩ => ?_) ha hb
  obtain ⟨d1, d2, rfl, r1, r2⟩ := RoAll2 ro
  replace e : powP d1 d2 = some d := e
  unfold powP at e
  split at e
  · split at e
    · rename_i i j hz; cases e
      have h2 := hz.2.2
      unfold small at h2
      simp only [Bool.and_eq_true, decide_eq_true_eq] at h2
      exact ⟨_, _, r1.int, r2.int, ⟨hz.1, by omega, by omega⟩, f.same s o (.inl (.int _))⟩
    · cases e
  · cases e
theorem pd_neg (ha : PE X a (tO G da)) : PE X (.UnaryOp .USub a pos) (tD G (dPrim .neg (dCons da dNil))) := by
  refine pd_un un_neg (fun Q x H ⟨A, F, w, ds, d, s, o, ro, e, f⟩ => ?_) ha
  obtain ⟨d1, rfl, r1⟩ := RoAll1 ro
  replace e : negP d1 = some d := e
  unfold negP at e
  split at e
  · cases e; exact ⟨_, r1.int, f.same s o (.inl (.int _))⟩
  · cases e

/-! ### == -/
mutual
theorem dpPl {K : PySem.W.Frag} {H : Hp} : ∀ (d : D) (v : V), Dp K H v d → PyData.plain d = true
  | .none, _, h => rfl
  | .bool b, _, h => rfl
  | .int i, _, h => rfl
  | .str x, _, h => rfl
  | .list ds, _, h => by
    cases h with
    | lst e r => rw [PyData.plain]; exact dpPlAll ds _ r
  | .tuple ds, _, h => by
    cases h with
    | tup e r => rw [PyData.plain]; exact dpPlAll ds _ r
  | .dict _, _, h => by cases h
theorem dpPlAll {K : PySem.W.Frag} {H : Hp} : ∀ (ds : List D) (vs : List V), DpAll K H vs ds → PyData.plainAll ds = true
  | [], _, h => rfl
  | d :: ds, _, h => by
    cases h with
    | cons r t => rw [PyData.plainAll, dpPl d _ r, dpPlAll ds _ t]; rfl
end
mutual
theorem eqd_eqv : ∀ a b : D, eqd a b = PyData.eqv a b
  | .none, b => by cases b <;> simp [eqd, PyData.eqv]
  | .bool x, b => by cases b <;> simp [eqd, PyData.eqv]
  | .int i, b => by cases b <;> simp [eqd, PyData.eqv]
  | .str x, b => by cases b <;> simp [eqd, PyData.eqv]
  | .list xs, b => by
    cases b with
    | list ys => rw [eqd, PyData.eqv]; exact eqdAll_eqv xs ys
    | _ => simp [eqd, PyData.eqv]
  | .tuple xs, b => by
    cases b with
    | tuple ys => rw [eqd, PyData.eqv]; exact eqdAll_eqv xs ys
    | _ => simp [eqd, PyData.eqv]
  | .dict x, b => by cases b <;> simp [eqd, PyData.eqv]
theorem eqdAll_eqv : ∀ xs ys : List D, eqdAll xs ys = PyData.eqvAll xs ys
  | [], ys => by cases ys <;> simp [eqdAll, PyData.eqvAll]
  | x :: xs, [] => by simp [eqdAll, PyData.eqvAll]
  | x :: xs, y :: ys => by rw [eqdAll, PyData.eqvAll, eqd_eqv x y, eqdAll_eqv xs ys]
end
theorem depth_le : ∀ (n : Nat) (d : D), shal n d = true → d.depth ≤ n
  | n, .none, _ => by simp [PyData.depth]
  | n, .bool _, _ => by simp [PyData.depth]
  | n, .int _, _ => by simp [PyData.depth]
  | n, .str _, _ => by simp [PyData.depth]
  | 0, .list _, h => by simp [shal] at h
  | 0, .tuple _, h => by simp [shal] at h
  | 0, .dict _, h => by simp [shal] at h
  | n + 1, .dict _, h => by simp [shal] at h
  | n + 1, .list ds, h => by
    rw [shal] at h
    rw [PyData.depth]
    have := all_le n ds (fun d hd => depth_le n d (List.all_eq_true.mp h d hd))
    omega
  | n + 1, .tuple ds, h => by
    rw [shal] at h
    rw [PyData.depth]
    have := all_le n ds (fun d hd => depth_le n d (List.all_eq_true.mp h d hd))
    omega
where all_le (n : Nat) : ∀ (ds : List D), (∀ d ∈ ds, d.depth ≤ n) → PyData.depthAll ds ≤ n
  | [], _ => by simp [PyData.depthAll]
  | d :: ds, h => by
    rw [PyData.depthAll]
    have h1 := h d List.mem_cons_self
    have h2 := all_le n ds fun e he => h e (List.mem_cons_of_mem _ he)
    omega
theorem eqOk_of {a b : D} (h : eqOk a b = true) : plain a = true ∧ plain b = true ∧ min a.depth b.depth ≤ 8 := by
  unfold eqOk at h
  simp only [Bool.and_eq_true, Bool.or_eq_true] at h
  refine ⟨h.1.1, h.1.2, ?_⟩
  rcases h.2 with h | h
  · have := depth_le 8 a h; omega
  · have := depth_le 8 b h; omega
def rEqK (K : PySem.W.Frag) (f : Bool → Bool) : R2 := fun x y H Q => ∃ d e, Dp K H x d ∧ Dp K H y e ∧ min d.depth e.depth ≤ 8 ∧ Q (.bl (f (PyData.eqv d e))) H
theorem op_eqK (hu : X.A.units + 64 < cLine) : OpR X (compareOp .Eq) (rEqK X.K id) := by
  intro pins s σ H x y v u Q I rx ry h
  obtain ⟨d, e, hd, he, hl, q⟩ := h
  obtain ⟨as, r1⟩ := Dp.reads I d x v hd rx
  obtain ⟨bs, r2⟩ := Dp.reads I e y u he ry
  exact SeqAt.eq_plain r1 r2 (dpPl _ _ hd) (dpPl _ _ he) (by omega) ⟨.bl _, H, I, rfl, q⟩
theorem op_neK (hu : X.A.units + 64 < cLine) : OpR X (compareOp .NotEq) (rEqK X.K not) := by
  intro pins s σ H x y v u Q I rx ry h
  obtain ⟨d, e, hd, he, hl, q⟩ := h
  obtain ⟨as, r1⟩ := Dp.reads I d x v hd rx
  obtain ⟨bs, r2⟩ := Dp.reads I e y u he ry
  exact SeqAt.ne_plain r1 r2 (dpPl _ _ hd) (dpPl _ _ he) (by omega) ⟨.bl _, H, I, rfl, q⟩

/-! ### comparisons -/
/-- what a comparison's rule gives of the data -/
def CmpS (X : Cx) (G : Cg) (op : CmpOp) (p : Pr) : Prop := ∃ r, OpR X (compareOp op) r ∧ ∀ Q x y H, Kp G p Q [x, y] H → r x y H Q
theorem cs_eq (hK : G.K = X.K) (hu : X.A.units + 64 < cLine) : CmpS X G .Eq .eq := ⟨_, op_eqK hu, fun Q x y H ⟨A, F, w, ds, d, s, o, ro, e, f⟩ => by
  obtain ⟨d1, d2, rfl, r1, r2⟩ := RoAll2 ro
  replace e : eqP d1 d2 = some d := e
  unfold eqP at e
  split at e
  · rename_i h; cases e
    obtain ⟨h1, h2, h3⟩ := eqOk_of h
    refine ⟨norm d1, norm d2, hK ▸ r1.dpN s h1, hK ▸ r2.dpN s h2, h3, ?_⟩
    rw [← eqd_eqv]
    exact f.same s o (.inl (.bl _))
  · cases e⟩
theorem cs_ne (hK : G.K = X.K) (hu : X.A.units + 64 < cLine) : CmpS X G .NotEq .ne := ⟨_, op_neK hu, fun Q x y H ⟨A, F, w, ds, d, s, o, ro, e, f⟩ => by
  obtain ⟨d1, d2, rfl, r1, r2⟩ := RoAll2 ro
  replace e : neP d1 d2 = some d := e
  unfold neP at e
  split at e
  · rename_i h; cases e
    obtain ⟨h1, h2, h3⟩ := eqOk_of h
    refine ⟨norm d1, norm d2, hK ▸ r1.dpN s h1, hK ▸ r2.dpN s h2, h3, ?_⟩
    rw [← eqd_eqv]
    exact f.same s o (.inl (.bl _))
  · cases e⟩
theorem cmpP_of {G : Cg} {g : Int → Int → Bool} {Q : VK} {x y : V} {H : Hp} {A : List Addr} {F : Hp} {w : Om} {d1 d2 d : D} (s : Same F H) (o : Omg G.C A F H w) (r1 : Ro G.K A F H x d1) (r2 : Ro G.K A F H y d2) (e : cmpP g d1 d2 = some d) (f : Fin G A F H w d Q) : ∃ i j, x = .int i ∧ y = .int j ∧ Q (.bl (g i j)) H := by
  unfold cmpP at e
  split at e
  · cases e; exact ⟨_, _, r1.int, r2.int, f.same s o (.inl (.bl _))⟩
  · cases e
theorem cs_lt : CmpS X G .Lt .lt := ⟨_, op_lt, fun Q x y H ⟨A, F, w, ds, d, s, o, ro, e, f⟩ => by
  obtain ⟨d1, d2, rfl, r1, r2⟩ := RoAll2 ro
  exact cmpP_of s o r1 r2 e f⟩
theorem cs_le : CmpS X G .LtE .le := ⟨_, op_le, fun Q x y H ⟨A, F, w, ds, d, s, o, ro, e, f⟩ => by
  obtain ⟨d1, d2, rfl, r1, r2⟩ := RoAll2 ro
  exact cmpP_of s o r1 r2 e f⟩
theorem cs_gt : CmpS X G .Gt .gt := ⟨_, op_gt, fun Q x y H ⟨A, F, w, ds, d, s, o, ro, e, f⟩ => by
  obtain ⟨d1, d2, rfl, r1, r2⟩ := RoAll2 ro
  exact cmpP_of s o r1 r2 e f⟩
theorem cs_ge : CmpS X G .GtE .ge := ⟨_, op_ge, fun Q x y H ⟨A, F, w, ds, d, s, o, ro, e, f⟩ => by
  obtain ⟨d1, d2, rfl, r1, r2⟩ := RoAll2 ro
  exact cmpP_of s o r1 r2 e f⟩
theorem ro_none {K : PySem.W.Frag} {A : List Addr} {F H : Hp} {v : V} {d : D} (h : Ro K A F H v d) (p : plain d = true) : decide (v = .non) = isNone d := by
  cases d with
  | none => rw [h.non]; rfl
  | bool b => rw [h.bl]; rfl
  | int i => rw [h.int]; rfl
  | str x => rw [h.str]; rfl
  | list ds =>
    rcases h with h | ⟨p, vs, ds', e1, _⟩
    · cases h.plain p with
      | lst e r => rfl
    · rw [e1]; rfl
  | tuple ds => obtain ⟨a, vs, e, _⟩ := h.tup; rw [e]; rfl
  | dict _ => cases p
theorem cs_isN : ∀ Q x H, Kp G .isN Q [x] H → (V.non = V.non ∧ Q (.bl (decide (x = .non))) H) := fun Q x H ⟨A, F, w, ds, d, s, o, ro, e, f⟩ => by
  obtain ⟨d1, rfl, r1⟩ := RoAll1 ro
  replace e : tstP isNone d1 = some d := e
  unfold tstP at e
  split at e
  · rename_i h; cases e
    refine ⟨rfl, ?_⟩
    rw [ro_none r1 h]
    exact f.same s o (.inl (.bl _))
  · cases e
theorem cs_notN : ∀ Q x H, Kp G .notN Q [x] H → (V.non = V.non ∧ Q (.bl (!decide (x = .non))) H) := fun Q x H ⟨A, F, w, ds, d, s, o, ro, e, f⟩ => by
  obtain ⟨d1, rfl, r1⟩ := RoAll1 ro
  replace e : tstP (fun d => !isNone d) d1 = some d := e
  unfold tstP at e
  split at e
  · rename_i h; cases e
    refine ⟨rfl, ?_⟩
    rw [ro_none r1 h]
    exact f.same s o (.inl (.bl _))
  · cases e
theorem str_one {y : Str} {c : Nat} (h : y.cps.toList = [c]) : y = ⟨#[c]⟩ := by
  cases y with
  | mk cps => exact congrArg Str.mk (Array.toList_inj.mp h)
/-- x in c, for data -/
def rInK (K : PySem.W.Frag) (f : Bool → Bool) : R2 := fun x y H Q => ∃ d ds, Dp K H x d ∧ (Dp K H y (.list ds) ∨ Dp K H y (.tuple ds)) ∧ min (PyData.depthAll ds) d.depth ≤ 8 ∧ Q (.bl (f (ds.any fun z => PyData.eqv z d))) H
theorem op_inK (hu : X.A.units + 64 < cLine) : OpR X (compareOp .In) (rInK X.K id) := by
  intro pins s σ H x y v u Q I rx ry h
  obtain ⟨d, ds, hd, he, hl, q⟩ := h
  obtain ⟨as, r1⟩ := Dp.reads I d x v hd rx
  rcases he with he | he
  · obtain ⟨bs, r2⟩ := Dp.reads I _ y u he ry
    exact SeqAt.in_list_data r2 r1 (by have := dpPl _ _ he; rwa [PyData.plain] at this) (dpPl _ _ hd) (by omega) ⟨.bl _, H, I, rfl, q⟩
  · obtain ⟨bs, r2⟩ := Dp.reads I _ y u he ry
    exact SeqAt.in_tuple_data r2 r1 (by have := dpPl _ _ he; rwa [PyData.plain] at this) (dpPl _ _ hd) (by omega) ⟨.bl _, H, I, rfl, q⟩
theorem op_notinK (hu : X.A.units + 64 < cLine) : OpR X (compareOp .NotIn) (rInK X.K not) := by
  intro pins s σ H x y v u Q I rx ry h
  obtain ⟨d, ds, hd, he, hl, q⟩ := h
  obtain ⟨as, r1⟩ := Dp.reads I d x v hd rx
  rcases he with he | he
  · obtain ⟨bs, r2⟩ := Dp.reads I _ y u he ry
    exact SeqAt.notIn_list_data r2 r1 (by have := dpPl _ _ he; rwa [PyData.plain] at this) (dpPl _ _ hd) (by omega) ⟨.bl _, H, I, rfl, q⟩
  · obtain ⟨bs, r2⟩ := Dp.reads I _ y u he ry
    exact SeqAt.notIn_tuple_data r2 r1 (by have := dpPl _ _ he; rwa [PyData.plain] at this) (dpPl _ _ hd) (by omega) ⟨.bl _, H, I, rfl, q⟩
theorem in_of (hK : G.K = X.K) {x y : V} {H : Hp} {A : List Addr} {F : Hp} {d1 d2 : D} {b : Bool} (s : Same F H) (r1 : Ro G.K A F H x d1) (r2 : Ro G.K A F H y d2) (e : inP d1 d2 = some b) :
    (∃ ds, Dp X.K H x d1 ∧ (Dp X.K H y (.list ds) ∨ Dp X.K H y (.tuple ds)) ∧ min (PyData.depthAll ds) d1.depth ≤ 8 ∧ (ds.any fun z => PyData.eqv z d1) = b) ∨ (∃ (c : Nat) (z : Str), x = .str ⟨#[c]⟩ ∧ y = .str z ∧ decide (c ∈ z.cps.toList) = b) := by
  unfold inP at e
  split at e
  · split at e
    · rename_i ys h; cases e
      obtain ⟨h1, h2, h3⟩ := eqOk_of h
      rw [PyData.depth] at h3
      refine .inl ⟨ys, hK ▸ r1.dp s h1, .inl (hK ▸ r2.dp s h2), by omega, ?_⟩
      congr 1; funext z; rw [eqd_eqv]
    · cases e
  · split at e
    · rename_i ys h; cases e
      obtain ⟨h1, h2, h3⟩ := eqOk_of h
      rw [PyData.depth] at h3
      refine .inl ⟨ys, hK ▸ r1.dp s h1, .inr (hK ▸ r2.dp s h2), by omega, ?_⟩
      congr 1; funext z; rw [eqd_eqv]
    · cases e
  · split at e
    · split at e
      · rename_i c hc; cases e
        refine .inr ⟨c, _, ?_, r2.str, rfl⟩
        rw [r1.str, str_one hc]
      · cases e
    · cases e
  · cases e
theorem cs_in (hK : G.K = X.K) (hu : X.A.units + 64 < cLine) : CmpS X G .In .isin := ⟨_, (op_inK hu).or op_in_sign, fun Q x y H ⟨A, F, w, ds, d, s, o, ro, e, f⟩ => by
  obtain ⟨d1, d2, rfl, r1, r2⟩ := RoAll2 ro
  replace e : (inP d1 d2).map PyData.bool = some d := e
  cases hb : inP d1 d2 with
  | none => rw [hb] at e; cases e
  | some b =>
    rw [hb] at e; cases e
    have q := f.same s o (.inl (.bl b))
    rcases in_of hK s r1 r2 hb with ⟨ds, h1, h2, h3, h4⟩ | ⟨c, z, h1, h2, h3⟩
    · exact .inl ⟨d1, ds, h1, h2, h3, by rw [h4]; exact q⟩
    · exact .inr ⟨c, z, h1, h2, by rw [h3]; exact q⟩⟩
theorem cs_notin (hK : G.K = X.K) (hu : X.A.units + 64 < cLine) : CmpS X G .NotIn .notin := ⟨_, (op_notinK hu).or op_notIn_sign, fun Q x y H ⟨A, F, w, ds, d, s, o, ro, e, f⟩ => by
  obtain ⟨d1, d2, rfl, r1, r2⟩ := RoAll2 ro
  replace e : (inP d1 d2).map (fun b => PyData.bool (!b)) = some d := e
  cases hb : inP d1 d2 with
  | none => rw [hb] at e; cases e
  | some b =>
    rw [hb] at e; cases e
    have q := f.same s o (.inl (.bl (!b)))
    rcases in_of hK s r1 r2 hb with ⟨ds, h1, h2, h3, h4⟩ | ⟨c, z, h1, h2, h3⟩
    · exact .inl ⟨d1, ds, h1, h2, h3, by rw [h4]; exact q⟩
    · exact .inr ⟨c, z, h1, h2, by rw [h3]; exact q⟩⟩
theorem pd_cmp {op : CmpOp} {p : Pr} (h : CmpS X G op p) (ha : PE X a (tO G da)) (hb : PE X b (tO G db)) (hm : behindInMarks op b = false) : PE X (.Compare a [op] [b] pos) (tD G (dPrim p (dCons da (dCons db dNil)))) := by
  obtain ⟨r, ho, hp⟩ := h
  exact peI (pe_cmpR ho ha hb hm) fun σ H Q h => tO_imp (args2 (prim_args h)) fun x H1 q => tO_imp q fun y H2 k => hp Q x y H2 k
theorem pd_isN {j : Nat} {p2 : Pos} (ha : PE X a (tO G da)) : PE X (.Compare a [.Is] [.Constant .none j p2] pos) (tD G (dPrim .isN (dCons da dNil))) :=
  peI (pe_cmpR op_isN ha pe_non rfl) fun σ H Q h => tO_imp (args1 (prim_args h)) fun x H1 k => cs_isN Q x H1 k
theorem pd_notN {j : Nat} {p2 : Pos} (ha : PE X a (tO G da)) : PE X (.Compare a [.IsNot] [.Constant .none j p2] pos) (tD G (dPrim .notN (dCons da dNil))) :=
  peI (pe_cmpR op_notN ha pe_non rfl) fun σ H Q h => tO_imp (args1 (prim_args h)) fun x H1 k => cs_notN Q x H1 k

/-! ### tests -/
def PostT (G : Cg) (Q : Bool → Hp → Prop) (σ : St) (A : List Addr) (F H : Hp) : R → Om → Prop
  | .val d, w => ∃ b, truth d = some b ∧ ∀ A' F' H', Step A F H A' F' H' → Omg G.C A' F' H' w → Q b H'
  | .exc x, w => ∀ cls dd A' F' H', Step A F H A' F' H' → Omg G.C A' F' H' w → XRep G.ec F' H' cls dd x → G.W cls dd σ H'
def tT (G : Cg) (e : Ex) : TT := fun σ H Q => ∃ A F r w x w', Rel G.K G.C G.M A F H σ r w ∧ e G.c r w = some (x, w') ∧ PostT G Q σ A F H x w'
theorem truV_of (hK : G.K = X.K) {A : List Addr} {F H : Hp} {v : V} {d : D} {b : Bool} (s : Same F H) (r : Ro G.K A F H v d) (e : truth d = some b) : TruV X.K v H b := by
  cases d with
  | none => rw [r.non]; cases e; rfl
  | bool c => rw [r.bl]; cases e; rfl
  | int i => rw [r.int]; cases e; rfl
  | str x =>
    rw [r.str]
    replace e : (if x.length ≤ zL then some ((x.length : Int) != 0) else none) = some b := e
    split at e
    · rename_i h; cases e; exact ⟨zl h, rfl⟩
    · cases e
  | list ds =>
    obtain ⟨a, vs, rfl, h, q⟩ := r.lst s
    cases e
    exact .inl ⟨vs, .inl (.inl h), by cases q <;> rfl⟩
  | tuple ds =>
    obtain ⟨a, vs, rfl, h, q⟩ := r.tup
    cases e
    exact .inr (.inl ⟨vs, .inl (.inl (s _ _ h)), by cases q <;> rfl⟩)
  | dict _ => cases e
/-- a test by its value's truth -/
theorem pt_of (hK : G.K = X.K) (ha : PE X a (tO G da)) (he : ∀ whole, isTrue a X.env whole = (do let v ← whole; standAt a.pos; holding [v] (truthy v))) : PT X a (tT G da) :=
  ptI (pt_truth ha he) fun σ H Q ⟨A, F, r, w, x, w', rel, e, post⟩ => ⟨A, F, r, w, x, w', rel, e, by
    cases x with
    | exc x => exact post
    | val d =>
      obtain ⟨b, hb, q⟩ := post
      exact fun v A' F' H' s o ro => ⟨b, truV_of hK s.fh ro hb, q A' F' H' s o⟩⟩
/-- comparisons give bools -/
theorem tT_bool (hb : ∀ c r w d w', da c r w = some (.val d, w') → ∃ b, d = .bool b) {σ : St} {H : Hp} {Q : Bool → Hp → Prop} (h : tT G da σ H Q) : tD G da σ H fun x H' => ∃ k, x = .bl k ∧ Q k H' := by
  obtain ⟨A, F, r, w, x, w', rel, e, post⟩ := h
  refine ⟨A, F, r, w, x, w', rel, e, ?_⟩
  cases x with
  | exc x => exact post
  | val d =>
    obtain ⟨b, rfl⟩ := hb _ _ _ _ _ e
    obtain ⟨b', h1, q⟩ := post
    cases h1
    exact fun v A' F' H' s o ro => ⟨b, (Ro.bl (H := H') (.inl ro)), q A' F' H' s o⟩
theorem pt_bool (hb : ∀ c r w d w', da c r w = some (.val d, w') → ∃ b, d = .bool b) {t : TE} (ht : ∀ σ H Q, tD G da σ H Q → t σ H Q) (h : PT X a (tTest t)) : PT X a (tT G da) :=
  ptI h fun σ H Q q => ht σ H _ (tT_bool hb q)
def boolPr : Pr → Bool
  | .eq | .ne | .lt | .le | .gt | .ge | .isin | .notin | .isN | .notN => true
  | _ => false
theorem p2_some {f : D → D → Option D} {ds : List D} {d : D} (h : p2 f ds = some d) : ∃ a b, ds = [a, b] ∧ f a b = some d := by
  unfold p2 at h
  split at h
  · exact ⟨_, _, rfl, h⟩
  · cases h
theorem p1_some {f : D → Option D} {ds : List D} {d : D} (h : p1 f ds = some d) : ∃ a, ds = [a] ∧ f a = some d := by
  unfold p1 at h
  split at h
  · exact ⟨_, rfl, h⟩
  · cases h
theorem prim_bool : ∀ {p : Pr} {ds : List D} {d : D}, boolPr p = true → prim p ds = some d → ∃ b, d = .bool b := by
  intro p ds d hp h
  cases p <;> first | (cases hp; done) | skip
  · obtain ⟨x, y, rfl, g⟩ := p2_some (f := eqP) h
    unfold eqP at g; split at g <;> cases g; exact ⟨_, rfl⟩
  · obtain ⟨x, y, rfl, g⟩ := p2_some (f := neP) h
    unfold neP at g; split at g <;> cases g; exact ⟨_, rfl⟩
  · obtain ⟨x, y, rfl, g⟩ := p2_some (f := (cmpP fun i j => decide (i < j))) h
    unfold cmpP at g; split at g <;> cases g; exact ⟨_, rfl⟩
  · obtain ⟨x, y, rfl, g⟩ := p2_some (f := (cmpP fun i j => decide (i ≤ j))) h
    unfold cmpP at g; split at g <;> cases g; exact ⟨_, rfl⟩
  · obtain ⟨x, y, rfl, g⟩ := p2_some (f := (cmpP fun i j => decide (j < i))) h
    unfold cmpP at g; split at g <;> cases g; exact ⟨_, rfl⟩
  · obtain ⟨x, y, rfl, g⟩ := p2_some (f := (cmpP fun i j => decide (j ≤ i))) h
    unfold cmpP at g; split at g <;> cases g; exact ⟨_, rfl⟩
  · obtain ⟨x, y, rfl, g⟩ := p2_some (f := (fun x y => (inP x y).map .bool)) h
    cases hb : inP x y with
    | none => simp [hb] at g
    | some b => simp [hb] at g; exact ⟨_, g.symm⟩
  · obtain ⟨x, y, rfl, g⟩ := p2_some (f := (fun x y => (inP x y).map fun b => .bool (!b))) h
    cases hb : inP x y with
    | none => simp [hb] at g
    | some b => simp [hb] at g; exact ⟨_, g.symm⟩
  · obtain ⟨x, rfl, g⟩ := p1_some (f := (tstP isNone)) h
    unfold tstP at g; split at g <;> cases g; exact ⟨_, rfl⟩
  · obtain ⟨x, rfl, g⟩ := p1_some (f := (tstP fun d => !isNone d)) h
    unfold tstP at g; split at g <;> cases g; exact ⟨_, rfl⟩
theorem dPrim_bool {p : Pr} {es : Exs} (hp : boolPr p = true) : ∀ c r w d w', dPrim p es c r w = some (.val d, w') → ∃ b, d = .bool b := by
  intro c r w d w' h
  unfold dPrim at h
  split at h
  · cases h
  · cases h
  · rename_i ds w1 _
    cases hd : prim p ds with
    | none => rw [hd] at h; cases h
    | some e =>
      rw [hd] at h; cases h
      exact prim_bool hp hd
theorem ptd_cmp {op : CmpOp} {p : Pr} (h : CmpS X G op p) (hbp : boolPr p = true) (ha : PE X a (tO G da)) (hb : PE X b (tO G db)) (hm : behindInMarks op b = false) : PT X (.Compare a [op] [b] pos) (tT G (dPrim p (dCons da (dCons db dNil)))) := by
  obtain ⟨r, ho, hp⟩ := h
  exact pt_bool (dPrim_bool hbp) (fun σ H Q h => tO_imp (args2 (prim_args h)) fun x H1 q => tO_imp q fun y H2 k => hp Q x y H2 k) (pt_cmpR ho ha hb hm)
theorem ptd_isN {j : Nat} {p2 : Pos} (ha : PE X a (tO G da)) : PT X (.Compare a [.Is] [.Constant .none j p2] pos) (tT G (dPrim .isN (dCons da dNil))) :=
  pt_bool (dPrim_bool rfl) (fun σ H Q h => tO_imp (args1 (prim_args h)) fun x H1 k => cs_isN Q x H1 k) (pt_cmpR op_isN ha pe_non rfl)
theorem ptd_notN {j : Nat} {p2 : Pos} (ha : PE X a (tO G da)) : PT X (.Compare a [.IsNot] [.Constant .none j p2] pos) (tT G (dPrim .notN (dCons da dNil))) :=
  pt_bool (dPrim_bool rfl) (fun σ H Q h => tO_imp (args1 (prim_args h)) fun x H1 k => cs_notN Q x H1 k) (pt_cmpR op_notN ha pe_non rfl)
/-- a op b op' c -/
theorem chain_of {p q : Pr} {r r' : R2} (hbp : boolPr p = true) (hp : ∀ Q x y H, Kp G p Q [x, y] H → r x y H Q) (hq : ∀ Q x y H, Kp G q Q [x, y] H → r' x y H Q) {σ : St} {H : Hp} {Q : VK} (h : tD G (dChain p q da db dc) σ H Q) : tChain r r' (tO G da) (tO G db) (tO G dc) σ H Q := by
  obtain ⟨A, F, r, w, x, w', rel, e, post⟩ := h
  unfold dChain at e
  cases h1 : da G.c r w with
  | none => rw [h1] at e; cases e
  | some pr =>
    obtain ⟨x1, w1⟩ := pr
    rw [h1] at e
    cases x1 with
    | exc y => cases e; exact ⟨A, F, r, w, .exc y, _, rel, h1, post⟩
    | val d1 =>
      refine ⟨A, F, r, w, .val d1, w1, rel, h1, fun v1 A1 F1 H1 s1 o1 r1 => ?_⟩
      simp only at e
      have rel1 := rel.step s1 o1
      cases h2 : db G.c r w1 with
      | none => rw [h2] at e; cases e
      | some pr =>
        obtain ⟨x2, w2⟩ := pr
        rw [h2] at e
        cases x2 with
        | exc y => cases e; exact ⟨A1, F1, r, w1, .exc y, _, rel1, h2, fun cls dd A2 F2 H2 s2 o2 q => post cls dd A2 F2 H2 (s1.trans s2) o2 q⟩
        | val d2 =>
          refine ⟨A1, F1, r, w1, .val d2, w2, rel1, h2, fun v2 A2 F2 H2 s2 o2 r2 => ?_⟩
          simp only at e
          have rel2 := rel1.step s2 o2
          cases hpr : prim p [d1, d2] with
          | none => rw [hpr] at e; cases e
          | some db' =>
            obtain ⟨bb, rfl⟩ := prim_bool hbp hpr
            rw [hpr] at e
            refine hp _ v1 v2 H2 ⟨A2, F2, w2, [d1, d2], .bool bb, s2.fh, o2, .cons (r1.step s2) (.cons r2 .nil), hpr, fun v A3 F3 H3 s3 o3 r3 => ?_⟩
            refine ⟨bb, Ro.bl (H := H3) (.inl r3), ?_⟩
            cases bb with
            | false =>
              cases e
              rw [if_neg (by decide)]
              exact post (.bl false) A3 F3 H3 ((s1.trans s2).trans s3) o3 (.inl (.bl false))
            | true =>
              rw [if_pos rfl]
              simp only at e
              have rel3 := rel2.step s3 o3
              cases h3 : dc G.c r w2 with
              | none => rw [h3] at e; cases e
              | some pr =>
                obtain ⟨x3, w3⟩ := pr
                rw [h3] at e
                cases x3 with
                | exc y => cases e; exact ⟨A3, F3, r, w2, .exc y, _, rel3, h3, fun cls dd A4 F4 H4 s4 o4 q => post cls dd A4 F4 H4 (((s1.trans s2).trans s3).trans s4) o4 q⟩
                | val d3 =>
                  refine ⟨A3, F3, r, w2, .val d3, w3, rel3, h3, fun v3 A4 F4 H4 s4 o4 r4 => ?_⟩
                  simp only at e
                  cases hqr : prim q [d2, d3] with
                  | none => rw [hqr] at e; cases e
                  | some d4 =>
                    rw [hqr] at e; cases e
                    exact hq Q v2 v3 H4 ⟨A4, F4, _, [d2, d3], d4, s4.fh, o4, .cons ((r2.step s3).step s4) (.cons r4 .nil), hqr, fun v A5 F5 H5 s5 o5 r5 => post v A5 F5 H5 ((((s1.trans s2).trans s3).trans s4).trans s5) o5 r5⟩
theorem pd_chain {op op' : CmpOp} {p q : Pr} (h : CmpS X G op p) (h' : CmpS X G op' q) (hbp : boolPr p = true) (ha : PE X a (tO G da)) (hb : PE X b (tO G db)) (hc : PE X c (tO G dc)) (hm : lastMarks [op, op'] [b, c] = false) : PE X (.Compare a [op, op'] [b, c] pos) (tD G (dChain p q da db dc)) := by
  obtain ⟨r, ho, hp⟩ := h
  obtain ⟨r', ho', hq⟩ := h'
  exact peI (pe_chain ho ho' ha hb hc hm) fun σ H Q h => chain_of hbp hp hq h
theorem dChain_bool {p q : Pr} (hq : boolPr q = true) : ∀ c r w d w', dChain p q da db dc c r w = some (.val d, w') → ∃ b, d = .bool b := by
  intro c r w d w' h
  unfold dChain at h
  split at h
  · cases h
  · cases h
  · split at h
    · cases h
    · cases h
    · split at h
      · split at h
        · cases h
        · cases h
        · rw [Option.map_eq_some_iff] at h
          obtain ⟨e, he, h⟩ := h
          cases h
          exact prim_bool hq he
      · cases h; exact ⟨_, rfl⟩
      · cases h
theorem ptd_chain {op op' : CmpOp} {p q : Pr} (h : CmpS X G op p) (h' : CmpS X G op' q) (hbp : boolPr p = true) (hbq : boolPr q = true) (ha : PE X a (tO G da)) (hb : PE X b (tO G db)) (hc : PE X c (tO G dc)) (hm : lastMarks [op, op'] [b, c] = false) : PT X (.Compare a [op, op'] [b, c] pos) (tT G (dChain p q da db dc)) := by
  obtain ⟨r, ho, hp⟩ := h
  obtain ⟨r', ho', hq⟩ := h'
  exact pt_bool (dChain_bool hbq) (fun σ H Q h => chain_of hbp hp hq h) (pt_chain ho ho' ha hb hc hm)
end
end Rx

set_option Elab.async false
set_option linter.all false
set_option maxRecDepth 100000
set_option maxHeartbeats 1000000
set_option autoImplicit false
namespace Rx
open PySem L2
section
variable {X : Cx} {G : Cg} {a b c e : Expr} {es rest : List Expr} {da db dc de : Ex} {des : Exs} {pos : Pos}
/-! ### arguments -/
theorem pad_nil : PA X [] (tDs G dNil) := paI pa_nil fun _ _ _ h => tDs_nil h
theorem pao_nil : PA X [] (tOs G dNil) := paI pa_nil fun _ _ _ h => tOs_nil h
theorem pad_cons (he : PE X e (tD G de)) (hs : PA X es (tDs G des)) (hst : starEach (e :: es) X.env = (false, eval e X.env) :: starEach es X.env) : PA X (e :: es) (tDs G (dCons de des)) := paI (pa_cons he hs hst) fun _ _ _ h => tDs_cons h
theorem pao_cons (he : PE X e (tO G de)) (hs : PA X es (tOs G des)) (hst : starEach (e :: es) X.env = (false, eval e X.env) :: starEach es X.env) : PA X (e :: es) (tOs G (dCons de des)) := paI (pa_cons he hs hst) fun _ _ _ h => tOs_cons h

/-! ### and, or, not, if -/
theorem pwd_and1 (ha : PT X a (tT G da)) : PW X (.BoolOp .And [a] pos) (tT G da) := pw_and1 ha
theorem pwd_or1 (ha : PT X a (tT G da)) : PW X (.BoolOp .Or [a] pos) (tT G da) := pw_or1 ha
theorem pwd_and (ha : PT X a (tT G da)) (hb : PW X (.BoolOp .And (b :: rest) pos) (tT G db)) : PW X (.BoolOp .And (a :: b :: rest) pos) (tT G (dAnd da db)) :=
  pwI (pw_and ha hb) fun σ H Q ⟨A, F, r, w, x, w', rel, e, post⟩ => by
    unfold dAnd at e
    cases h1 : da G.c r w with
    | none => rw [h1] at e; cases e
    | some pr =>
      obtain ⟨x1, w1⟩ := pr
      rw [h1] at e
      cases x1 with
      | exc y => cases e; exact ⟨A, F, r, w, .exc y, _, rel, h1, post⟩
      | val d =>
        simp only at e
        cases ht : truth d with
        | none => rw [ht] at e; cases e
        | some k =>
          rw [ht] at e
          refine ⟨A, F, r, w, .val d, w1, rel, h1, k, ht, fun A1 F1 H1 s1 o1 => ?_⟩
          cases k with
          | false =>
            cases e
            obtain ⟨b', hb', q⟩ := post
            rw [ht] at hb'; cases hb'
            rw [if_neg (by decide)]
            exact q A1 F1 H1 s1 o1
          | true =>
            rw [if_pos rfl]
            refine ⟨A1, F1, r, w1, x, w', rel.step s1 o1, e, ?_⟩
            cases x with
            | exc y => exact fun cls dd A2 F2 H2 s2 o2 q => post cls dd A2 F2 H2 (s1.trans s2) o2 q
            | val d2 =>
              obtain ⟨b', hb', q⟩ := post
              exact ⟨b', hb', fun A2 F2 H2 s2 o2 => q A2 F2 H2 (s1.trans s2) o2⟩
theorem pwd_or (ha : PT X a (tT G da)) (hb : PW X (.BoolOp .Or (b :: rest) pos) (tT G db)) : PW X (.BoolOp .Or (a :: b :: rest) pos) (tT G (dOr da db)) :=
  pwI (pw_or ha hb) fun σ H Q ⟨A, F, r, w, x, w', rel, e, post⟩ => by
    unfold dOr at e
    cases h1 : da G.c r w with
    | none => rw [h1] at e; cases e
    | some pr =>
      obtain ⟨x1, w1⟩ := pr
      rw [h1] at e
      cases x1 with
      | exc y => cases e; exact ⟨A, F, r, w, .exc y, _, rel, h1, post⟩
      | val d =>
        simp only at e
        cases ht : truth d with
        | none => rw [ht] at e; cases e
        | some k =>
          rw [ht] at e
          refine ⟨A, F, r, w, .val d, w1, rel, h1, k, ht, fun A1 F1 H1 s1 o1 => ?_⟩
          cases k with
          | true =>
            cases e
            obtain ⟨b', hb', q⟩ := post
            rw [ht] at hb'; cases hb'
            rw [if_pos rfl]
            exact q A1 F1 H1 s1 o1
          | false =>
            rw [if_neg (by decide)]
            refine ⟨A1, F1, r, w1, x, w', rel.step s1 o1, e, ?_⟩
            cases x with
            | exc y => exact fun cls dd A2 F2 H2 s2 o2 q => post cls dd A2 F2 H2 (s1.trans s2) o2 q
            | val d2 =>
              obtain ⟨b', hb', q⟩ := post
              exact ⟨b', hb', fun A2 F2 H2 s2 o2 => q A2 F2 H2 (s1.trans s2) o2⟩
theorem ptd_not (ha : PT X a (tT G da)) : PT X (.UnaryOp .Not a pos) (tT G (dNot da)) :=
  ptI (pt_not ha) fun σ H Q ⟨A, F, r, w, x, w', rel, e, post⟩ => by
    unfold dNot at e
    cases h1 : da G.c r w with
    | none => rw [h1] at e; cases e
    | some pr =>
      obtain ⟨x1, w1⟩ := pr
      rw [h1] at e
      cases x1 with
      | exc y => cases e; exact ⟨A, F, r, w, .exc y, _, rel, h1, post⟩
      | val d =>
        simp only at e
        cases ht : truth d with
        | none => rw [ht] at e; cases e
        | some k =>
          rw [ht] at e; cases e
          obtain ⟨b', hb', q⟩ := post
          cases hb'
          exact ⟨A, F, r, w, .val d, _, rel, h1, k, ht, q⟩
theorem pd_one {op : BoolOp} {t : TE} (h : PE X a t) : PE X (.BoolOp op [a] pos) t := pe_one h
theorem pd_and (hK : G.K = X.K) (ha : PE X a (tD G da)) (hb : PE X (.BoolOp .And (b :: rest) pos) (tD G db)) : PE X (.BoolOp .And (a :: b :: rest) pos) (tD G (dAnd da db)) :=
  peI (pe_andT ha hb) fun σ H Q ⟨A, F, r, w, x, w', rel, e, post⟩ => by
    unfold dAnd at e
    cases h1 : da G.c r w with
    | none => rw [h1] at e; cases e
    | some pr =>
      obtain ⟨x1, w1⟩ := pr
      rw [h1] at e
      cases x1 with
      | exc y => cases e; exact ⟨A, F, r, w, .exc y, _, rel, h1, post⟩
      | val d =>
        simp only at e
        cases ht : truth d with
        | none => rw [ht] at e; cases e
        | some k =>
          rw [ht] at e
          refine ⟨A, F, r, w, .val d, w1, rel, h1, fun v A1 F1 H1 s1 o1 r1 => ⟨k, truV_of hK s1.fh (.inl r1) ht, ?_⟩⟩
          cases k with
          | false =>
            cases e
            rw [if_neg (by decide)]
            exact post v A1 F1 H1 s1 o1 r1
          | true =>
            rw [if_pos rfl]
            refine ⟨A1, F1, r, w1, x, w', rel.step s1 o1, e, ?_⟩
            cases x with
            | exc y => exact fun cls dd A2 F2 H2 s2 o2 q => post cls dd A2 F2 H2 (s1.trans s2) o2 q
            | val d2 => exact fun v2 A2 F2 H2 s2 o2 r2 => post v2 A2 F2 H2 (s1.trans s2) o2 r2
theorem pd_or (hK : G.K = X.K) (ha : PE X a (tD G da)) (hb : PE X (.BoolOp .Or (b :: rest) pos) (tD G db)) : PE X (.BoolOp .Or (a :: b :: rest) pos) (tD G (dOr da db)) :=
  peI (pe_orT ha hb) fun σ H Q ⟨A, F, r, w, x, w', rel, e, post⟩ => by
    unfold dOr at e
    cases h1 : da G.c r w with
    | none => rw [h1] at e; cases e
    | some pr =>
      obtain ⟨x1, w1⟩ := pr
      rw [h1] at e
      cases x1 with
      | exc y => cases e; exact ⟨A, F, r, w, .exc y, _, rel, h1, post⟩
      | val d =>
        simp only at e
        cases ht : truth d with
        | none => rw [ht] at e; cases e
        | some k =>
          rw [ht] at e
          refine ⟨A, F, r, w, .val d, w1, rel, h1, fun v A1 F1 H1 s1 o1 r1 => ⟨k, truV_of hK s1.fh (.inl r1) ht, ?_⟩⟩
          cases k with
          | true =>
            cases e
            rw [if_pos rfl]
            exact post v A1 F1 H1 s1 o1 r1
          | false =>
            rw [if_neg (by decide)]
            refine ⟨A1, F1, r, w1, x, w', rel.step s1 o1, e, ?_⟩
            cases x with
            | exc y => exact fun cls dd A2 F2 H2 s2 o2 q => post cls dd A2 F2 H2 (s1.trans s2) o2 q
            | val d2 => exact fun v2 A2 F2 H2 s2 o2 r2 => post v2 A2 F2 H2 (s1.trans s2) o2 r2
theorem pd_notE (hK : G.K = X.K) (ha : PE X a (tO G da)) : PE X (.UnaryOp .Not a pos) (tD G (dNot da)) :=
  peI (pe_notT ha) fun σ H Q ⟨A, F, r, w, x, w', rel, e, post⟩ => by
    unfold dNot at e
    cases h1 : da G.c r w with
    | none => rw [h1] at e; cases e
    | some pr =>
      obtain ⟨x1, w1⟩ := pr
      rw [h1] at e
      cases x1 with
      | exc y => cases e; exact ⟨A, F, r, w, .exc y, _, rel, h1, post⟩
      | val d =>
        simp only at e
        cases ht : truth d with
        | none => rw [ht] at e; cases e
        | some k =>
          rw [ht] at e; cases e
          exact ⟨A, F, r, w, .val d, _, rel, h1, fun v A1 F1 H1 s1 o1 r1 => ⟨k, truV_of hK s1.fh r1 ht, post (.bl (!k)) A1 F1 H1 s1 o1 (.inl (.bl _))⟩⟩
theorem pd_ite (hc : PT X c (tT G dc)) (ha : PE X a (tD G da)) (hb : PE X b (tD G db)) : PE X (.IfExp c a b pos) (tD G (dIte dc da db)) :=
  peI (pe_ifExp hc ha hb) fun σ H Q ⟨A, F, r, w, x, w', rel, e, post⟩ => by
    unfold dIte at e
    cases h1 : dc G.c r w with
    | none => rw [h1] at e; cases e
    | some pr =>
      obtain ⟨x1, w1⟩ := pr
      rw [h1] at e
      cases x1 with
      | exc y => cases e; exact ⟨A, F, r, w, .exc y, _, rel, h1, post⟩
      | val d =>
        simp only at e
        cases ht : truth d with
        | none => rw [ht] at e; cases e
        | some k =>
          rw [ht] at e
          refine ⟨A, F, r, w, .val d, w1, rel, h1, k, ht, fun A1 F1 H1 s1 o1 => ?_⟩
          have again : ∀ dd : Ex, dd G.c r w1 = some (x, w') → tD G dd σ H1 Q := fun dd hd => by
            refine ⟨A1, F1, r, w1, x, w', rel.step s1 o1, hd, ?_⟩
            cases x with
            | exc y => exact fun cls dd A2 F2 H2 s2 o2 q => post cls dd A2 F2 H2 (s1.trans s2) o2 q
            | val d2 => exact fun v2 A2 F2 H2 s2 o2 r2 => post v2 A2 F2 H2 (s1.trans s2) o2 r2
          cases k with
          | true => exact iteT (again _ e)
          | false => exact iteF (again _ e)

/-! ### displays -/
theorem all_plain {K : PySem.W.Frag} {A : List Addr} {F : Hp} {vs : List V} {ds : List D} (h : RtAll K A F vs ds) (p : ds.all plain = true) : RpAll F vs ds := h.plain p
theorem tDs_imp {Q Q' : List V → Hp → Prop} {σ : St} {H : Hp} (h : tDs G des σ H Q) (i : ∀ v H, Q v H → Q' v H) : tDs G des σ H Q' := by
  obtain ⟨A, F, r, w, x, w', rel, e, post⟩ := h
  refine ⟨A, F, r, w, x, w', rel, e, ?_⟩
  cases x with
  | vals d => exact fun v A' F' H' s o q => i _ _ (post v A' F' H' s o q)
  | exc x => exact post
theorem tOs_imp {Q Q' : List V → Hp → Prop} {σ : St} {H : Hp} (h : tOs G des σ H Q) (i : ∀ v H, Q v H → Q' v H) : tOs G des σ H Q' := by
  obtain ⟨A, F, r, w, x, w', rel, e, post⟩ := h
  refine ⟨A, F, r, w, x, w', rel, e, ?_⟩
  cases x with
  | vals d => exact fun v A' F' H' s o q => i _ _ (post v A' F' H' s o q)
  | exc x => exact post
theorem pd_tup {k : Nat} (h : PA X es (tDs G des)) : PE X (.Tuple es k pos) (tD G (dPrim .tup des)) :=
  peI (pe_tup h) fun σ H Q q => tDs_imp (prim_argsD q) fun vs H1 ⟨A, F, w, ds, d, s, o, ro, e, f⟩ => by
    replace e : tupP ds = some d := e
    unfold tupP at e
    split at e
    · rename_i hz; cases e
      simp only [Bool.and_eq_true, decide_eq_true_eq] at hz
      have r := ro.plain hz.1
      exact ⟨by rw [r.length]; exact zl hz.2, fun p hp => f.tup s o hp r⟩
    · cases e
theorem pd_lst (h : PA X es (tDs G des)) : PE X (.List es pos) (tD G (dPrim .lst des)) :=
  peI (pe_lst h) fun σ H Q q => tDs_imp (prim_argsD q) fun vs H1 ⟨A, F, w, ds, d, s, o, ro, e, f⟩ => by
    replace e : lstP ds = some d := e
    unfold lstP at e
    split at e
    · rename_i hz; cases e
      simp only [Bool.and_eq_true, decide_eq_true_eq] at hz
      have r := ro.plain hz.1
      exact ⟨by rw [r.length]; exact zl hz.2, fun p hp => f.lst s o hp r⟩
    · cases e

/-! ### subscripts -/
theorem at_of' {F : Hp} {vs : List V} {ds : List D} {i : Int} {d : D} (r : RpAll F vs ds) (e : ((ixAt ds.length i).bind fun j => ds[j]?) = some d) : ∃ v, atI vs i = some v ∧ Rp F v d := by
  cases hj : ixAt ds.length i with
  | none => rw [hj] at e; cases e
  | some j =>
    rw [hj] at e
    obtain ⟨v, h1, h2⟩ := r.get (show ds[j]? = some d from e)
    refine ⟨v, ?_, h2⟩
    unfold atI
    have : ixN vs.length i = some j := by rw [r.length]; exact hj
    rw [this]
    exact h1
theorem pd_ix (hK : G.K = X.K) (ha : PE X a (tO G da)) (hb : PE X b (tO G db)) (hs : PlainIx b) : PE X (.Subscript a b pos) (tD G (dPrim .ix (dCons da (dCons db dNil)))) :=
  peI (pe_ix ix_seq ha hb hs) fun σ H Q h => tO_imp (args2 (prim_args h)) fun x H1 q => tO_imp q fun y H2 ⟨A, F, w, ds, d, s, o, ro, e, f⟩ => by
    obtain ⟨d1, d2, rfl, r1, r2⟩ := RoAll2 ro
    replace e : ixP d1 d2 = some d := e
    unfold ixP at e
    split at e
    · obtain ⟨a1, v1, rfl, f1, q1⟩ := r1.lst s
      obtain ⟨v, h1, h2⟩ := at_of' q1 e
      exact .inl ⟨a1, v1, _, v, rfl, r2.int, .inl (.inl f1), h1, f.same s o (.inl h2)⟩
    · obtain ⟨a1, v1, rfl, f1, q1⟩ := r1.tup
      obtain ⟨v, h1, h2⟩ := at_of' q1 e
      exact .inr (.inl ⟨a1, v1, _, v, rfl, r2.int, .inl (.inl (s _ _ f1)), h1, f.same s o (.inl h2)⟩)
    · split at e
      · rename_i z i hz
        cases hj : ixAt z.cps.toList.length i with
        | none => rw [hj] at e; cases e
        | some j =>
          rw [hj] at e
          replace e : (z.cps.toList[j]?).map (fun c => PyData.str ⟨#[c]⟩) = some d := e
          cases hc : z.cps.toList[j]? with
          | none => rw [hc] at e; cases e
          | some c =>
            rw [hc] at e; cases e
            refine .inr (.inr ⟨z, i, c, r1.str, r2.int, zl hz, ?_, f.same s o (.inl (.str _))⟩)
            unfold atI
            have : ixN z.cps.toList.length i = some j := hj
            rw [this]
            exact hc
      · cases e
    · rename_i xs i
      obtain ⟨a1, ns, rfl, rfl, q1⟩ := r1.script s
      rw [List.length_map] at e
      cases hj : ixAt ns.length i with
      | none => rw [hj] at e; cases e
      | some j =>
        rw [hj] at e
        replace e : (ns.map PyData.int)[j]? = some d := e
        rw [List.getElem?_map] at e
        cases hn : ns[j]? with
        | none => rw [hn] at e; cases e
        | some n =>
          rw [hn] at e; cases e
          refine .inl ⟨a1, ns.map V.int, i, .int n, rfl, r2.int, hK ▸ q1, ?_, f.same s o (.inl (.int n))⟩
          unfold atI
          have : ixN (ns.map V.int).length i = some j := by rw [List.length_map]; exact hj
          rw [this]
          show (ns.map V.int)[j]? = _
          rw [List.getElem?_map, hn]; rfl
    · rename_i xs i
      obtain ⟨a1, ns, rfl, rfl, ob, q1, _⟩ := r1.xt
      rw [List.length_map] at e
      cases hj : ixAt ns.length i with
      | none => rw [hj] at e; cases e
      | some j =>
        rw [hj] at e
        replace e : (ns.map PyData.int)[j]? = some d := e
        rw [List.getElem?_map] at e
        cases hn : ns[j]? with
        | none => rw [hn] at e; cases e
        | some n =>
          rw [hn] at e; cases e
          refine .inr (.inl ⟨a1, ns.map V.int, i, .int n, rfl, r2.int, .inl (.inr ⟨ob, s _ _ q1⟩), ?_, f.same s o (.inl (.int n))⟩)
          unfold atI
          have : ixN (ns.map V.int).length i = some j := by rw [List.length_map]; exact hj
          rw [this]
          show (ns.map V.int)[j]? = some (.int n)
          rw [List.getElem?_map, hn]; rfl
    · cases e
theorem cut_all {F : Hp} {vs : List V} {ds : List D} (r : RpAll F vs ds) (lo hi : Option Int) : RpAll F (cutV vs lo hi) (cut ds lo hi) := by
  have e : ∀ n d o, clip n d o = HT.sIx n d o := fun n d o => by cases o <;> rfl
  unfold cutV cut
  rw [r.length]
  simp only [e]
  exact (r.drop _).take _
theorem cut_id {F : Hp} {vs : List V} {ds : List D} (r : RpAll F vs ds) {lo hi : Option Int} (h : HT.sIx vs.length 0 lo = 0 ∧ HT.sIx vs.length vs.length hi = vs.length) : cut ds lo hi = ds := by
  have e : ∀ n d o, clip n d o = HT.sIx n d o := fun n d o => by cases o <;> rfl
  unfold cut
  simp only [e]
  rw [← r.length, h.1, h.2]
  simp only [List.drop_zero, Nat.sub_zero]
  rw [r.length]
  exact List.take_length
theorem sl_ok {Q : VK} {x : V} {H : Hp} {A : List Addr} {F : Hp} {w : Om} {d1 d : D} {lo hi : Option Int} (hK : G.K = X.K) (s : Same F H) (o : Omg G.C A F H w) (r1 : Ro G.K A F H x d1) (e : slP d1 lo hi = some d) (f : Fin G A F H w d Q) :
    (rSlA X.K x lo hi H Q ∨ rSlL X.K x lo hi H Q) ∨ rSlS x lo hi H Q := by
  unfold slP at e
  split at e
  · cases e
    obtain ⟨a1, v1, rfl, f1, q1⟩ := r1.lst s
    exact .inl (.inr ⟨a1, v1, rfl, .inl (.inl f1), fun p hp => f.lst s o hp (cut_all q1 lo hi)⟩)
  · cases e
    obtain ⟨a1, v1, rfl, f1, q1⟩ := r1.tup
    refine .inl (.inl ⟨a1, v1, rfl, .inl (.inl (s _ _ f1)), fun h => ?_, fun _ p hp => f.tup s o hp (cut_all q1 lo hi)⟩)
    rw [cut_id q1 h] at f
    exact f.same s o (.inl (.tup f1 q1))
  · split at e
    · rename_i z hz; cases e
      refine .inr ⟨z, r1.str, zl hz, ?_⟩
      have ee : ∀ n d o, clip n d o = HT.sIx n d o := fun n d o => by cases o <;> rfl
      have : cutS z lo hi = ⟨(cut z.cps.toList lo hi).toArray⟩ := by
        unfold cutS cut
        simp only [ee]
        rfl
      rw [this]
      exact f.same s o (.inl (.str _))
    · cases e
  · cases e
theorem sl_all : SlR X (fun x lo hi H Q => (rSlA X.K x lo hi H Q ∨ rSlL X.K x lo hi H Q) ∨ rSlS x lo hi H Q) := (sl_tupA.or sl_list).or sl_str
theorem pd_sl0 (hK : G.K = X.K) {p2 : Pos} (ha : PE X a (tO G da)) : PE X (.Subscript a (.Slice none none none p2) pos) (tD G (dPrim .sl0 (dCons da dNil))) :=
  peI (pe_slice sl_all ha po_none po_none) fun σ H Q h => tO_imp (args1 (prim_args h)) fun x H1 ⟨A, F, w, ds, d, s, o, ro, e, f⟩ => by
    obtain ⟨d1, rfl, r1⟩ := RoAll1 ro
    exact sl_ok hK s o r1 e f
theorem pd_slL (hK : G.K = X.K) {p2 : Pos} (ha : PE X a (tO G da)) (hb : PE X b (tO G db)) : PE X (.Subscript a (.Slice (some b) none none p2) pos) (tD G (dPrim .slL (dCons da (dCons db dNil)))) :=
  peI (pe_slice sl_all ha (po_some hb) po_none) fun σ H Q h => tO_imp (args2 (prim_args h)) fun x H1 q => tO_imp q fun y H2 ⟨A, F, w, ds, d, s, o, ro, e, f⟩ => by
    obtain ⟨d1, d2, rfl, r1, r2⟩ := RoAll2 ro
    replace e : slL d1 d2 = some d := e
    unfold slL at e
    split at e
    · exact ⟨_, r2.int, sl_ok hK s o r1 e f⟩
    · cases e
theorem pd_slH (hK : G.K = X.K) {p2 : Pos} (ha : PE X a (tO G da)) (hb : PE X b (tO G db)) : PE X (.Subscript a (.Slice none (some b) none p2) pos) (tD G (dPrim .slH (dCons da (dCons db dNil)))) :=
  peI (pe_slice sl_all ha po_none (po_some hb)) fun σ H Q h => tO_imp (args2 (prim_args h)) fun x H1 q => tO_imp q fun y H2 ⟨A, F, w, ds, d, s, o, ro, e, f⟩ => by
    obtain ⟨d1, d2, rfl, r1, r2⟩ := RoAll2 ro
    replace e : slH d1 d2 = some d := e
    unfold slH at e
    split at e
    · exact ⟨_, r2.int, sl_ok hK s o r1 e f⟩
    · cases e

theorem args3' {a b c : Ex} {σ : St} {H : Hp} {Q : List V → Hp → Prop} (h : tOs G (dCons a (dCons b (dCons c dNil))) σ H Q) : tO G a σ H fun x H1 => tO G b σ H1 fun y H2 => tO G c σ H2 fun z H3 => Q [x, y, z] H3 := args3 h
theorem RoAll3 {K : PySem.W.Frag} {A : List Addr} {F H : Hp} {x y z : V} {ds : List D} (h : RoAll K A F H [x, y, z] ds) : ∃ d e g, ds = [d, e, g] ∧ Ro K A F H x d ∧ Ro K A F H y e ∧ Ro K A F H z g := by
  cases h with
  | cons a t =>
    cases t with
    | cons b u =>
      cases u with
      | cons c t => cases t; exact ⟨_, _, _, rfl, a, b, c⟩

/-! ### built-in functions -/
theorem pd_callB {id : String} {p : Pr} {r : List V → Hp → VK → Prop} {x : Str} {ps : Pos} (hc : CallR X (.builtin id) r) (hp : ∀ Q vs H, Kp G p Q vs H → r vs H Q) (hg : Gl X x) (hm : X.mg x = none) (hv : bootBuiltins x = some (.builtin id)) (ha : PA X (e :: es) (tOs G des)) (hn : x ≠ "__name__") (hdb : (x == ("__debug__" : Str)) = false)
    (he : starEach (e :: es) X.env = (false, eval e X.env) :: starEach es X.env) (hpl : (backTo pos (starEach es X.env)).any (·.1) = false) : PE X (.Call (.Name x ps) (e :: es) [] pos) (tD G (dPrim p des)) :=
  peI (pe_callB hc hg hm hv ha hn hdb he hpl) fun σ H Q h => tOs_imp (prim_args h) fun vs H1 k => hp Q vs H1 k
theorem pd_callTy {T : String} {p : Pr} {r : List V → Hp → VK → Prop} {x : Str} {ps : Pos} (hc : CallR X (.type T) r) (hp : ∀ Q vs H, Kp G p Q vs H → r vs H Q) (hg : Gl X x) (hm : X.mg x = none) (hv : bootBuiltins x = some (.type T)) (ha : PA X (e :: es) (tOs G des)) (hn : x ≠ "__name__") (hdb : (x == ("__debug__" : Str)) = false)
    (he : starEach (e :: es) X.env = (false, eval e X.env) :: starEach es X.env) (hpl : (backTo pos (starEach es X.env)).any (·.1) = false) : PE X (.Call (.Name x ps) (e :: es) [] pos) (tD G (dPrim p des)) :=
  peI (pe_callTy hc hg hm hv ha hn hdb he hpl) fun σ H Q h => tOs_imp (prim_args h) fun vs H1 k => hp Q vs H1 k
/-- a primitive of built-in functions, its rule -/
def FnS (X : Cx) (G : Cg) (f : Value) (p : Pr) : Prop := ∃ r, CallR X f r ∧ ∀ Q vs H, Kp G p Q vs H → r vs H Q
theorem p1_args {p : Pr} {f : D → Option D} (hp : prim p = p1 f) {Q : VK} {vs : List V} {H : Hp} (k : Kp G p Q vs H) : ∃ A F w v d1 d, vs = [v] ∧ Same F H ∧ Omg G.C A F H w ∧ Ro G.K A F H v d1 ∧ f d1 = some d ∧ Fin G A F H w d Q := by
  obtain ⟨A, F, w, ds, d, s, o, ro, e, fn⟩ := k
  rw [hp] at e
  obtain ⟨d1, rfl, e⟩ := p1_some e
  cases ro with
  | cons r t => cases t; exact ⟨A, F, w, _, d1, d, rfl, s, o, r, e, fn⟩
theorem p2_args {p : Pr} {f : D → D → Option D} (hp : prim p = p2 f) {Q : VK} {vs : List V} {H : Hp} (k : Kp G p Q vs H) : ∃ A F w v u d1 d2 d, vs = [v, u] ∧ Same F H ∧ Omg G.C A F H w ∧ Ro G.K A F H v d1 ∧ Ro G.K A F H u d2 ∧ f d1 d2 = some d ∧ Fin G A F H w d Q := by
  obtain ⟨A, F, w, ds, d, s, o, ro, e, fn⟩ := k
  rw [hp] at e
  obtain ⟨d1, d2, rfl, e⟩ := p2_some e
  cases ro with
  | cons r t =>
    cases t with
    | cons r2 t => cases t; exact ⟨A, F, w, _, _, d1, d2, d, rfl, s, o, r, r2, e, fn⟩
theorem fs_len (hK : G.K = X.K) : FnS X G (.builtin "len") .len := ⟨_, call_len_seq.or call_len_str, fun Q vs H k => by
  obtain ⟨A, F, w, v, d1, d, rfl, s, o, r, e, f⟩ := p1_args rfl k
  unfold lenP at e
  split at e
  · cases e
    obtain ⟨a1, v1, rfl, f1, q1⟩ := r.lst s
    exact .inl ⟨a1, v1, rfl, .inl (.inl (.inl f1)), by rw [q1.length]; exact f.same s o (.inl (.int _))⟩
  · cases e
    obtain ⟨a1, v1, rfl, f1, q1⟩ := r.tup
    exact .inl ⟨a1, v1, rfl, .inr (.inl (.inl (s _ _ f1))), by rw [q1.length]; exact f.same s o (.inl (.int _))⟩
  · split at e
    · rename_i hz; cases e
      exact .inr ⟨_, by rw [r.str], zl hz, f.same s o (.inl (.int _))⟩
    · cases e
  · cases e
    obtain ⟨a1, ns, rfl, rfl, q1⟩ := r.script s
    rw [List.length_map] at f
    exact .inl ⟨a1, ns.map V.int, rfl, .inl (hK ▸ q1), by rw [List.length_map]; exact f.same s o (.inl (.int _))⟩
  · cases e⟩
theorem items_some {d : D} {ds : List D} (h : items d = some ds) : d = .list ds ∨ d = .tuple ds := by
  unfold items at h
  split at h
  · cases h; exact .inl rfl
  · cases h; exact .inr rfl
  · cases h
theorem fs_list : FnS X G (.type "list") .list := ⟨_, call_list_of, fun Q vs H k => by
  obtain ⟨A, F, w, v, d1, d, rfl, s, o, r, e, f⟩ := p1_args rfl k
  rw [Option.map_eq_some_iff] at e
  obtain ⟨ds, h1, rfl⟩ := e
  rcases items_some h1 with rfl | rfl
  · obtain ⟨a1, v1, rfl, f1, q1⟩ := r.lst s
    exact ⟨a1, v1, rfl, .inl (.inl (.inl f1)), fun p hp => f.lst s o hp q1⟩
  · obtain ⟨a1, v1, rfl, f1, q1⟩ := r.tup
    exact ⟨a1, v1, rfl, .inr (.inl (.inl (s _ _ f1))), fun p hp => f.lst s o hp q1⟩⟩
theorem fs_tuple : FnS X G (.type "tuple") .tuple := ⟨_, call_tuple_of, fun Q vs H k => by
  obtain ⟨A, F, w, v, d1, d, rfl, s, o, r, e, f⟩ := p1_args rfl k
  rw [Option.map_eq_some_iff] at e
  obtain ⟨ds, h1, rfl⟩ := e
  rcases items_some h1 with rfl | rfl
  · obtain ⟨a1, v1, rfl, f1, q1⟩ := r.lst s
    exact ⟨a1, v1, rfl, .inl ⟨.inl (.inl f1), fun p hp => f.tup s o hp q1⟩⟩
  · obtain ⟨a1, v1, rfl, f1, q1⟩ := r.tup
    exact ⟨a1, v1, rfl, .inr ⟨.inl (.inl (s _ _ f1)), f.same s o (.inl (.tup f1 q1))⟩⟩⟩
theorem fs_max2 (hc : X.calm = true) : FnS X G (.builtin "max") .max2 := ⟨_, call_max2 hc, fun Q vs H k => by
  obtain ⟨A, F, w, v, u, d1, d2, d, rfl, s, o, r1, r2, e, f⟩ := p2_args rfl k
  unfold max2P at e
  split at e
  · cases e; exact ⟨_, _, by rw [r1.int, r2.int], f.same s o (.inl (.int _))⟩
  · cases e⟩
theorem fs_min2 (hc : X.calm = true) : FnS X G (.builtin "min") .min2 := ⟨_, call_min2 hc, fun Q vs H k => by
  obtain ⟨A, F, w, v, u, d1, d2, d, rfl, s, o, r1, r2, e, f⟩ := p2_args rfl k
  unfold min2P at e
  split at e
  · cases e; exact ⟨_, _, by rw [r1.int, r2.int], f.same s o (.inl (.int _))⟩
  · cases e⟩
theorem fs_int : FnS X G (.type "int") .int := ⟨_, call_int1, fun Q vs H k => by
  obtain ⟨A, F, w, v, d1, d, rfl, s, o, r, e, f⟩ := p1_args rfl k
  unfold intP at e
  split at e
  · cases e; exact .inr ⟨_, by rw [r.bl], f.same s o (.inl (.int _))⟩
  · cases e⟩
/-! ### isinstance with a built-in class -/
def tyN : D → String
  | .none => "NoneType"
  | .bool _ => "bool"
  | .int _ => "int"
  | .str _ => "str"
  | .list _ => "list"
  | .tuple _ => "tuple"
  | .dict _ => "dict"
theorem tyx_of {K K' : PySem.W.Frag} {A : List Addr} {F H : Hp} {v : V} {d : D} (s : Same F H) (r : Ro K A F H v d) (p : plain d = true) : TyX K' H v (.type (tyN d)) := by
  cases d with
  | none => rw [r.non]; exact .base .non
  | bool b => rw [r.bl]; exact .base (.bl _)
  | int i => rw [r.int]; exact .base (.int _)
  | str x => rw [r.str]; exact .base (.str _)
  | list ds => obtain ⟨a, vs, rfl, h, _⟩ := r.lst s; exact .base (.lst h)
  | tuple ds => obtain ⟨a, vs, rfl, h, _⟩ := r.tup; exact .base (.tup (s _ _ h))
  | dict _ => cases p
/-- the class's name, the primitive, its test -/
inductive IsiK : Str → String → Pr → (D → Bool) → Prop
  | int : IsiK "int" "int" .isInt isInt
  | bool : IsiK "bool" "bool" .isBool isBool
  | tuple : IsiK "tuple" "tuple" .isTuple isTup
  | str : IsiK "str" "str" .isStr isStr
theorem isi_kit {x : Str} {T : String} {p : Pr} {f : D → Bool} (h : IsiK x T p f) {K : PySem.W.Frag} (d : D) (pl : plain d = true) :
    PySem.W.kitOne K (.type (tyN d)) (.type T) = some (f d) := by
  cases h <;> cases d <;> (first | exact kit_ty (show kitB "NoneType" "int" = some false by decide +kernel) | exact kit_ty (show kitB "bool" "int" = some true by decide +kernel) | exact kit_ty (show kitB "int" "int" = some true by decide +kernel) | exact kit_ty (show kitB "str" "int" = some false by decide +kernel) | exact kit_ty (show kitB "list" "int" = some false by decide +kernel) | exact kit_ty (show kitB "tuple" "int" = some false by decide +kernel) | exact kit_ty (show kitB "NoneType" "bool" = some false by decide +kernel) | exact kit_ty (show kitB "bool" "bool" = some true by decide +kernel) | exact kit_ty (show kitB "int" "bool" = some false by decide +kernel) | exact kit_ty (show kitB "str" "bool" = some false by decide +kernel) | exact kit_ty (show kitB "list" "bool" = some false by decide +kernel) | exact kit_ty (show kitB "tuple" "bool" = some false by decide +kernel) | exact kit_ty (show kitB "NoneType" "tuple" = some false by decide +kernel) | exact kit_ty (show kitB "bool" "tuple" = some false by decide +kernel) | exact kit_ty (show kitB "int" "tuple" = some false by decide +kernel) | exact kit_ty (show kitB "str" "tuple" = some false by decide +kernel) | exact kit_ty (show kitB "list" "tuple" = some false by decide +kernel) | exact kit_ty (show kitB "tuple" "tuple" = some true by decide +kernel) | exact kit_ty (show kitB "NoneType" "str" = some false by decide +kernel) | exact kit_ty (show kitB "bool" "str" = some false by decide +kernel) | exact kit_ty (show kitB "int" "str" = some false by decide +kernel) | exact kit_ty (show kitB "str" "str" = some true by decide +kernel) | exact kit_ty (show kitB "list" "str" = some false by decide +kernel) | exact kit_ty (show kitB "tuple" "str" = some false by decide +kernel) | (exact absurd pl (by simp [plain])))
theorem pd_isi {x : Str} {T : String} {p : Pr} {f : D → Bool} {ps p2 : Pos} (h : IsiK x T p f) (hg : Gl X "isinstance") (hm : X.mg "isinstance" = none) (hgx : Gl X x) (hmx : X.mg x = none) (ha : PE X a (tO G da)) (hst : starEach [a, .Name x p2] X.env = (false, eval a X.env) :: starEach [.Name x p2] X.env) :
    PE X (.Call (.Name "isinstance" ps) [a, .Name x p2] [] pos) (tD G (dPrim p (dCons da dNil))) := by
  have hb : bootBuiltins x = some (.type T) := by cases h <;> decide +kernel
  have hn : x ≠ "__name__" := by cases h <;> decide
  have hd : (x == ("__debug__" : Str)) = false := by cases h <;> decide
  have hp : prim p = p1 (tstP f) := by cases h <;> rfl
  have hc : PE X (.Name x p2) (tC (.ty T)) := pe_bltn hgx hmx hb rfl hn hd
  refine peI (pe_callB call_isi hg hm (by decide +kernel) (pa_cons ha (pa_cons hc pa_nil rfl) hst) (by decide) (by decide) hst rfl) fun σ H Q q => tO_imp (args1 (prim_args q)) fun v H1 k => ?_
  obtain ⟨A, F, w, v', d1, d, e1, s, o, r, e, fn⟩ := p1_args hp k
  cases e1
  unfold tstP at e
  split at e
  · rename_i pl; cases e
    have ty := tyx_of (K' := X.K) s r pl
    exact ⟨_, _, _, _, _, rfl, .ty T, ty, isi_kit h d1 pl, fn.same s o (.inl (.bl _))⟩
  · cases e
/-! ### tuple(range(..)), list(range(..)) -/
theorem rg_all (F : Hp) (i j : Int) : RpAll F (rgV i j) (rangeD i j) := by
  unfold rgV rangeD
  generalize List.range (j - i).toNat = l
  induction l with
  | nil => exact .nil
  | cons x l ih => exact .cons (.int _) ih
theorem rng_ok {i j : Int} (h1 : inR i = true) (h2 : inR j = true) (h : j - i ≤ zL) : RgOk i j := by
  unfold inR at h1 h2
  simp only [Bool.and_eq_true, decide_eq_true_eq] at h1 h2
  unfold zL at h
  exact ⟨h1.1, h1.2, h2.1, h2.2, by omega⟩
theorem prim_prim {p q : Pr} {es : Exs} {σ : St} {H : Hp} {Q : VK} {f : D → Option D} (hp : prim p = p1 f) (h : tD G (dPrim p (dCons (dPrim q es) dNil)) σ H Q) :
    tOs G es σ H fun vs H1 => ∃ A F w ds d1 d, Same F H1 ∧ Omg G.C A F H1 w ∧ RoAll G.K A F H1 vs ds ∧ prim q ds = some d1 ∧ f d1 = some d ∧ Fin G A F H1 w d Q := by
  obtain ⟨A, F, r, w, x, w', rel, e, post⟩ := h
  simp only [dPrim, dCons, dNil] at e
  cases h1 : es G.c r w with
  | none => rw [h1] at e; cases e
  | some pr =>
    obtain ⟨x1, w1⟩ := pr
    rw [h1] at e
    cases x1 with
    | exc y => cases e; exact ⟨A, F, r, w, .exc y, _, rel, h1, post⟩
    | vals ds =>
      simp only at e
      cases h2 : prim q ds with
      | none => rw [h2] at e; cases e
      | some d1 =>
        rw [h2] at e
        simp only [Option.map_some, hp] at e
        replace e : (f d1).map (fun d => (R.val d, w1)) = some (x, w') := e
        rw [Option.map_eq_some_iff] at e
        obtain ⟨d, h3, e⟩ := e
        cases e
        exact ⟨A, F, r, w, .vals ds, _, rel, h1, fun vs A1 F1 H1 s1 o1 r1 => ⟨A1, F1, _, ds, d1, d, s1.fh, o1, r1, h2, h3, fun v A2 F2 H2 s2 o2 r2 => post v A2 F2 H2 (s1.trans s2) o2 r2⟩⟩
theorem rng1_some {d d1 : D} (h : rng1P d = some d1) : ∃ j : Int, d = .int j ∧ RgOk 0 j ∧ d1 = .list (rangeD 0 j) := by
  unfold rng1P at h
  split at h
  · split at h
    · rename_i j hz; cases h
      simp only [Bool.and_eq_true, decide_eq_true_eq] at hz
      exact ⟨j, rfl, rng_ok (by decide) hz.1 (by omega), rfl⟩
    · cases h
  · cases h
theorem rng2_some {d e d1 : D} (h : rng2P d e = some d1) : ∃ i j : Int, d = .int i ∧ e = .int j ∧ RgOk i j ∧ d1 = .list (rangeD i j) := by
  unfold rng2P at h
  split at h
  · split at h
    · rename_i i j hz; cases h
      simp only [Bool.and_eq_true, decide_eq_true_eq] at hz
      exact ⟨i, j, rfl, rfl, rng_ok hz.1.1 hz.1.2 hz.2, rfl⟩
    · cases h
  · cases h
section
variable {p1' p2' p3' : Pos} (hc : X.calm = true) (hgr : Gl X "range") (hmr : X.mg "range" = none)
include hc hgr hmr
theorem pd_tupRng1 (hg : Gl X "tuple") (hm : X.mg "tuple" = none) (ha : PE X a (tO G da)) (hst : starEach [a] X.env = (false, eval a X.env) :: starEach [] X.env) :
    PE X (.Call (.Name "tuple" p1') [.Call (.Name "range" p2') [a] [] p3'] [] pos) (tD G (dPrim .tuple (dCons (dPrim .rng1 (dCons da dNil)) dNil))) :=
  peI (pe_tupRg hc hg hm (prg_1 hgr hmr ha hst)) fun σ H Q h => tO_imp (args1 (prim_prim (f := fun d => (items d).map .tuple) rfl h)) fun v H1 ⟨A, F, w, ds, d1, d, s, o, r, e1, e2, f⟩ => by
    obtain ⟨dx, rfl, r1⟩ := RoAll1 r
    obtain ⟨j, rfl, ok, rfl⟩ := rng1_some (d := dx) e1
    cases e2
    exact ⟨j, r1.int, ok, fun q hq => f.tup s o hq (rg_all F 0 j)⟩
theorem pd_tupRng2 (hg : Gl X "tuple") (hm : X.mg "tuple" = none) (ha : PE X a (tO G da)) (hb : PE X b (tO G db)) (hst : starEach [a, b] X.env = (false, eval a X.env) :: starEach [b] X.env) (hst2 : starEach [b] X.env = (false, eval b X.env) :: starEach [] X.env) (hp : (backTo p3' (starEach [b] X.env)).any (·.1) = false) :
    PE X (.Call (.Name "tuple" p1') [.Call (.Name "range" p2') [a, b] [] p3'] [] pos) (tD G (dPrim .tuple (dCons (dPrim .rng2 (dCons da (dCons db dNil))) dNil))) :=
  peI (pe_tupRg hc hg hm (prg_2 hgr hmr ha hb hst hst2 hp)) fun σ H Q h => tO_imp (args2 (prim_prim (f := fun d => (items d).map .tuple) rfl h)) fun v H1 q => tO_imp q fun u H2 ⟨A, F, w, ds, d1, d, s, o, r, e1, e2, f⟩ => by
    obtain ⟨dx, dy, rfl, r1, r2⟩ := RoAll2 r
    obtain ⟨i, j, rfl, rfl, ok, rfl⟩ := rng2_some (d := dx) (e := dy) e1
    cases e2
    exact ⟨i, j, r1.int, r2.int, ok, fun q hq => f.tup s o hq (rg_all F i j)⟩
theorem pd_lstRng1 (hg : Gl X "list") (hm : X.mg "list" = none) (ha : PE X a (tO G da)) (hst : starEach [a] X.env = (false, eval a X.env) :: starEach [] X.env) :
    PE X (.Call (.Name "list" p1') [.Call (.Name "range" p2') [a] [] p3'] [] pos) (tD G (dPrim .list (dCons (dPrim .rng1 (dCons da dNil)) dNil))) :=
  peI (pe_listRg hc hg hm (prg_1 hgr hmr ha hst)) fun σ H Q h => tO_imp (args1 (prim_prim (f := fun d => (items d).map .list) rfl h)) fun v H1 ⟨A, F, w, ds, d1, d, s, o, r, e1, e2, f⟩ => by
    obtain ⟨dx, rfl, r1⟩ := RoAll1 r
    obtain ⟨j, rfl, ok, rfl⟩ := rng1_some (d := dx) e1
    cases e2
    exact ⟨j, r1.int, ok, fun q hq => f.lst s o hq (rg_all F 0 j)⟩
end
end
end Rx

set_option Elab.async false
set_option linter.all false
set_option maxRecDepth 100000
set_option maxHeartbeats 1000000
set_option autoImplicit false
namespace Rx
open PySem L2
open PySem.W (TotalLe sameRank dataLe AllAlike Sortable EachIs)
/-! ### insertion sort is the stable sort -/
section
variable {α : Type} {le : α → α → Bool}
theorem mem_ins {x z : α} : ∀ {l : List α}, z ∈ ins le x l ↔ z = x ∨ z ∈ l
  | [] => by simp [ins]
  | y :: ys => by
    unfold ins
    split
    · simp
    · simp only [List.mem_cons, mem_ins (l := ys)]
      constructor
      · rintro (h | h | h) <;> simp [h]
      · rintro (h | h | h) <;> simp [h]
theorem mem_isort {z : α} : ∀ {l : List α}, z ∈ isort le l ↔ z ∈ l
  | [] => by simp [isort]
  | x :: l => by simp only [isort, mem_ins, mem_isort (l := l), List.mem_cons]
theorem ins_sorted (t : TotalLe le) {x : α} : ∀ {l : List α}, l.Pairwise (fun a b => le a b = true) → (ins le x l).Pairwise (fun a b => le a b = true)
  | [], _ => by simp [ins]
  | y :: ys, h => by
    unfold ins
    rw [List.pairwise_cons] at h
    split
    · rename_i hx
      rw [List.pairwise_cons, List.pairwise_cons]
      refine ⟨fun z hz => ?_, h.1, h.2⟩
      rcases List.mem_cons.mp hz with rfl | hz
      · exact hx
      · exact t.trans _ _ _ hx (h.1 z hz)
    · rename_i hx
      rw [List.pairwise_cons]
      refine ⟨fun z hz => ?_, ins_sorted t h.2⟩
      rcases mem_ins.mp hz with rfl | hz
      · rcases t.total z y with q | q
        · exact absurd q hx
        · exact q
      · exact h.1 z hz
theorem isort_sorted (t : TotalLe le) : ∀ (l : List α), (isort le l).Pairwise (fun a b => le a b = true)
  | [] => by simp [isort]
  | x :: l => ins_sorted t (isort_sorted t l)
theorem ins_filter (t : TotalLe le) {x c : α} : ∀ {l : List α}, l.Pairwise (fun a b => le a b = true) → (ins le x l).filter (sameRank le c) = (x :: l).filter (sameRank le c)
  | [], _ => rfl
  | y :: ys, h => by
    unfold ins
    rw [List.pairwise_cons] at h
    split
    · rfl
    · rename_i hx
      rw [List.filter_cons, ins_filter t h.2]
      by_cases hc : sameRank le c x = true
      · have hy : sameRank le c y = false := by
          cases q : sameRank le c y with
          | false => rfl
          | true =>
            unfold sameRank at hc q
            rw [Bool.and_eq_true] at hc q
            exact absurd (t.trans _ _ _ hc.2 q.1) hx
        simp only [List.filter_cons, hc, hy, if_true, Bool.false_eq_true, if_false]
      · simp only [Bool.not_eq_true] at hc
        simp only [List.filter_cons, hc, Bool.false_eq_true, if_false]
theorem isort_filter (t : TotalLe le) {c : α} : ∀ (l : List α), (isort le l).filter (sameRank le c) = l.filter (sameRank le c)
  | [] => rfl
  | x :: l => by
    unfold isort
    rw [ins_filter t (isort_sorted t l), List.filter_cons, List.filter_cons, isort_filter t l]
theorem isort_merge (t : TotalLe le) (l : List α) : isort le l = l.mergeSort le := PySem.W.sort_unique t (isort_sorted t l) fun c => isort_filter t l
end
/-! ### the order is the library's -/
theorem ltI_eq : ∀ a b, ltI a b = PyProof.Rows.itemLt a b
  | .inl _, .inl _ => rfl
  | .inl _, .inr _ => rfl
  | .inr _, .inl _ => rfl
  | .inr _, .inr _ => rfl
theorem ltK_eq : ∀ a b, ltK a b = PyProof.Rows.lexLt PyProof.Rows.itemOrd a b
  | [], [] => rfl
  | [], _ :: _ => rfl
  | _ :: _, [] => rfl
  | x :: r, y :: t => by
    show (ltI x y || (!ltI y x && ltK r t)) = (PyProof.Rows.itemLt x y || (!PyProof.Rows.itemLt y x && PyProof.Rows.lexLt PyProof.Rows.itemOrd r t))
    rw [ltI_eq, ltI_eq, ltK_eq]
mutual
theorem kt_eq : ∀ d : D, kt d = PySem.W.keyToks d
  | .none => by rw [kt, PySem.W.keyToks]
  | .bool b => by rw [kt, PySem.W.keyToks]
  | .int b => by rw [kt, PySem.W.keyToks]
  | .str b => by rw [kt, PySem.W.keyToks]
  | .list xs => by rw [kt, PySem.W.keyToks, ktAll_eq xs]
  | .tuple xs => by rw [kt, PySem.W.keyToks, ktAll_eq xs]
  | .dict _ => by rw [kt, PySem.W.keyToks]
theorem ktAll_eq : ∀ ds : List D, ktAll ds = PySem.W.keyToksAll ds
  | [] => by rw [ktAll, PySem.W.keyToksAll]
  | x :: xs => by rw [ktAll, PySem.W.keyToksAll, kt_eq x, ktAll_eq xs]
end
theorem led_eq (x y : D) : led x y = dataLe false id x y := by
  unfold led ltd
  rw [ltK_eq, kt_eq, kt_eq]
  rfl
theorem led_total : TotalLe led := by
  have t := PySem.W.sortLe_total (PyProof.Rows.listOrd PyProof.Rows.itemOrd) false (fun b : D => PySem.W.keyToks b)
  refine ⟨fun a b c h1 h2 => ?_, fun a b => ?_⟩
  · rw [led_eq] at *; exact t.trans a b c h1 h2
  · rw [led_eq, led_eq]; exact t.total a b
mutual
theorem alk_eq : ∀ a b : D, alk a b = PySem.W.alike a b
  | .none, b => by cases b <;> simp [alk, PySem.W.alike]
  | .bool x, b => by cases b <;> simp [alk, PySem.W.alike]
  | .int i, b => by cases b <;> simp [alk, PySem.W.alike]
  | .str x, b => by cases b <;> simp [alk, PySem.W.alike]
  | .list xs, b => by
    cases b with
    | list ys => rw [alk, PySem.W.alike]; exact alkAll_eq xs ys
    | _ => simp [alk, PySem.W.alike]
  | .tuple xs, b => by
    cases b with
    | tuple ys => rw [alk, PySem.W.alike]; exact alkAll_eq xs ys
    | _ => simp [alk, PySem.W.alike]
  | .dict x, b => by cases b <;> simp [alk, PySem.W.alike]
theorem alkAll_eq : ∀ xs ys : List D, alkAll xs ys = PySem.W.alikeAll xs ys
  | [], ys => by cases ys <;> simp [alkAll, PySem.W.alikeAll]
  | x :: xs, [] => by simp [alkAll, PySem.W.alikeAll]
  | x :: xs, y :: ys => by rw [alkAll, PySem.W.alikeAll, alk_eq x y, alkAll_eq xs ys]
end
theorem srtOk_of {ds : List D} (h : srtOk ds = true) : AllAlike ds ∧ Sortable ds ∧ (∀ d ∈ ds, d.depth ≤ 8) ∧ ds.length ≤ zL := by
  unfold srtOk at h
  simp only [Bool.and_eq_true, Bool.or_eq_true, decide_eq_true_eq, List.all_eq_true] at h
  obtain ⟨⟨⟨h1, h2⟩, h3⟩, h4⟩ := h
  refine ⟨fun a ha b hb => by rw [← alk_eq]; exact h1 a ha b hb, ?_, fun d hd => depth_le 8 d (h3 d hd), h4⟩
  rcases h2 with h2 | h2
  · refine .inl fun d hd => ?_
    have q := h2 d hd
    unfold tup1 at q
    split at q
    · exact ⟨_, _, rfl⟩
    · cases q
  · refine .inr fun d hd => ?_
    have q := h2 d hd
    cases d <;> first | (cases q; done) | exact ⟨by simp, by simp⟩
section
variable {X : Cx} {G : Cg}
/-- the pairs of a value and what it stands for -/
theorem rp_zip {F : Hp} : ∀ {vs : List V} {ds : List D}, RpAll F vs ds → ∀ p ∈ vs.zip ds, Rp F p.1 p.2
  | [], _, _, p, hp => by simp at hp
  | _ :: _, [], _, p, hp => by simp at hp
  | v :: vs, d :: ds, h, p, hp => by
    cases h with
    | cons r t =>
      rw [List.zip_cons_cons] at hp
      rcases List.mem_cons.mp hp with rfl | hp
      · exact r
      · exact rp_zip t p hp
theorem rp_unzip {F : Hp} : ∀ (l : List (V × D)), (∀ p ∈ l, Rp F p.1 p.2) → RpAll F (l.map (·.1)) (l.map (·.2))
  | [], _ => .nil
  | p :: l, h => .cons (h p List.mem_cons_self) (rp_unzip l fun q hq => h q (List.mem_cons_of_mem _ hq))
/-- sorted(list) -/
def rSrt (K : PySem.W.Frag) : List V → Hp → VK → Prop := fun vs H Q => ∃ (a : Addr) (xs : List V) (ds : List D), vs = [V.ref a] ∧ H a = some (.lst xs) ∧ RpAll H xs ds ∧ srtOk ds = true ∧
  ∀ (ys : List V) (p : Addr), ys = ((xs.zip ds).mergeSort (fun p q => led p.2 q.2)).map (·.1) → H p = none → Q (.ref p) (upd H p (.lst ys))
theorem each_of {X : Cx} {pins : List (Addr × Obj)} {σ : St} {H : Hp} {s : Shared} (I : Inv X pins σ H s) : ∀ (xs : List V) (ds : List D) (us : List Value), RpAll H xs ds → Vals xs us →
    EachIs (fun v (b : V × D) => RelV b.1 v) us (xs.zip ds) ∧ EachIs (fun v (b : V × D) => ∃ as, Reads s.heap v b.2 as) us (xs.zip ds)
  | [], _, _, h, r => by cases h; cases r; exact ⟨.nil, .nil⟩
  | x :: xs, _, _, h, r => by
    cases h with
    | cons h1 h2 =>
      cases r with
      | cons r1 r2 =>
        obtain ⟨e1, e2⟩ := each_of I xs _ _ h2 r2
        exact ⟨.cons r1 e1, .cons (Dp.reads I _ _ _ h1.dp r1) e2⟩
theorem zip_snd {F : Hp} {xs : List V} {ds : List D} (r : RpAll F xs ds) : (xs.zip ds).map Prod.snd = ds := List.map_snd_zip (by rw [r.length]; exact Nat.le_refl _)
theorem zip_fst {F : Hp} {xs : List V} {ds : List D} (r : RpAll F xs ds) : (xs.zip ds).map Prod.fst = xs := List.map_fst_zip (by rw [r.length]; exact Nat.le_refl _)
theorem vals_each : ∀ {us : List Value} {bs : List (V × D)}, EachIs (fun v (b : V × D) => RelV b.1 v) us bs → Vals (bs.map (·.1)) us
  | _, _, .nil => .nil
  | _, _, .cons h t => .cons h (vals_each t)
theorem cr_srt (hu : X.A.units + 64 < cLine) : CallR X (.builtin "sorted") (rSrt X.K) := by
  intro pins s σ H vs us Q I r h
  obtain ⟨a, xs, ds, rfl, ha, rp, ok, q⟩ := h
  obtain ⟨al, so, dp, hz⟩ := srtOk_of ok
  obtain ⟨its, rv, hl, hzl⟩ := I.list (SqL.of ha)
  rw [Vals.ref1 r]
  obtain ⟨e1, e2⟩ := each_of I xs ds its rp rv
  have hzip : (xs.zip ds).map Prod.snd = ds := zip_snd rp
  refine PySem.W.sorted_data (enc := Prod.snd) hl.isList e1 e2 (by rw [hzip]; exact al) (by rw [hzip]; exact so) ?_ (fun b hb => ?_) fun out ho eo => ?_
  · rw [List.length_zip, rp.length, Nat.min_self]; exact zl hz
  · have := dp b.2 (by rw [← hzip]; exact List.mem_map.mpr ⟨b, hb, rfl⟩)
    omega
  · obtain ⟨ep, he'⟩ := PyProof.Rows.sortedAll_at s.heap its out.toArray
    have eq : (xs.zip ds).mergeSort (dataLe false Prod.snd) = (xs.zip ds).mergeSort (fun p q => led p.2 q.2) := PySem.W.sort_congr fun a _ b _ => (led_eq a.2 b.2).symm
    rw [eq] at eo
    have vl := vals_each eo
    have hlen : (((xs.zip ds).mergeSort (fun p q => led p.2 q.2)).map (·.1)).length ≤ sizeLine := by
      rw [List.length_map, List.length_mergeSort, List.length_zip, rp.length, Nat.min_self]
      exact zl hz
    exact ⟨.ref _, upd H (s.heap.objs.size + 1) (.lst _), I.laid (t' := s.toks) (fun _ _ => PyProof.Rows.sortedAll_old) (Nat.le_succ _) ⟨hlen, out, ep, vl, by simpa using he'⟩, rfl, q _ _ rfl (I.hok.fresh (Nat.le_succ _))⟩
theorem srt_all {F : Hp} {xs : List V} {ds : List D} (r : RpAll F xs ds) : RpAll F (((xs.zip ds).mergeSort (fun p q => led p.2 q.2)).map (·.1)) (isort led ds) := by
  have e : ((xs.zip ds).mergeSort (fun p q => led p.2 q.2)).map (·.2) = isort led ds := by
    rw [isort_merge led_total]
    have := PySem.W.sort_maps (r := fun p q : V × D => led p.2 q.2) (s := led) Prod.snd (l := xs.zip ds) fun _ _ _ _ => rfl
    rw [zip_snd r] at this
    exact this
  rw [← e]
  refine rp_unzip _ fun p hp => ?_
  exact rp_zip r p ((List.mem_mergeSort).mp hp)
theorem fs_sorted (hu : X.A.units + 64 < cLine) : ∀ Q vs H, (∃ A F w v ds d, vs = [v] ∧ Same F H ∧ Omg G.C A F H w ∧ Ro G.K A F H v (.list ds) ∧ sortedP (.list ds) = some d ∧ Fin G A F H w d Q) → rSrt X.K vs H Q := by
  intro Q vs H ⟨A, F, w, v, ds, d, e1, s, o, r, e, f⟩
  subst e1
  replace e : (if srtOk ds then some (PyData.list (isort led ds)) else none) = some d := e
  split at e
  · rename_i ok; cases e
    obtain ⟨a, xs, rfl, ha, rp⟩ := r.lst s
    refine ⟨a, xs, ds, rfl, ha, rp.mono s, ok, fun ys p hy hp => ?_⟩
    subst hy
    exact f.lst s o hp (srt_all rp)
  · cases e
end
end Rx

set_option Elab.async false
set_option linter.all false
set_option maxRecDepth 100000
set_option maxHeartbeats 1000000
set_option autoImplicit false
namespace Rx
open PySem L2
/-! ### targets -/
/-- slots set: each one as before, or bound anew -/
structure Up (F : Hp) (is : List Nat) (σ : St) (r : Env) (σ' : St) (r' : Env) : Prop where
  l1 : σ'.length = σ.length
  l2 : r'.length = r.length
  at_ : ∀ i : Nat, (σ'[i]? = σ[i]? ∧ r'[i]? = r[i]?) ∨ (i ∈ is ∧ ∃ v d, σ'[i]? = some (some v) ∧ r'[i]? = some (some d) ∧ Rp F v d)
theorem Up.refl {F : Hp} {is : List Nat} {σ : St} {r : Env} : Up F is σ r σ r := ⟨rfl, rfl, fun _ => .inl ⟨rfl, rfl⟩⟩
theorem Up.trans {F : Hp} {is js : List Nat} {σ σ1 σ2 : St} {r r1 r2 : Env} (a : Up F is σ r σ1 r1) (b : Up F js σ1 r1 σ2 r2) : Up F (is ++ js) σ r σ2 r2 := by
  refine ⟨b.l1.trans a.l1, b.l2.trans a.l2, fun i => ?_⟩
  rcases b.at_ i with ⟨h1, h2⟩ | ⟨hi, v, d, h1, h2, h3⟩
  · rcases a.at_ i with ⟨g1, g2⟩ | ⟨gi, v, d, g1, g2, g3⟩
    · exact .inl ⟨h1.trans g1, h2.trans g2⟩
    · exact .inr ⟨List.mem_append_left _ gi, v, d, h1.trans g1, h2.trans g2, g3⟩
  · exact .inr ⟨List.mem_append_right _ hi, v, d, h1, h2, h3⟩
theorem Up.one {F : Hp} {i : Nat} {σ : St} {r : Env} {v : V} {d : D} (l : σ.length = r.length) (h : Rp F v d) : Up F [i] σ r (σ.set i (some v)) (r.set i (some d)) := by
  refine ⟨List.length_set, List.length_set, fun j => ?_⟩
  by_cases hj : i = j
  · subst hj
    by_cases hl : i < σ.length
    · exact .inr ⟨List.mem_singleton.mpr rfl, v, d, by rw [List.getElem?_set_self hl], by rw [List.getElem?_set_self (by omega)], h⟩
    · refine .inl ⟨?_, ?_⟩
      · rw [List.getElem?_eq_none (by rw [List.length_set]; omega), List.getElem?_eq_none (by omega)]
      · rw [List.getElem?_eq_none (by rw [List.length_set]; omega), List.getElem?_eq_none (by omega)]
  · exact .inl ⟨List.getElem?_set_ne hj, List.getElem?_set_ne hj⟩
theorem Up.rel {K : PySem.W.Frag} {C : Addr} {M : List Nat} {A : List Addr} {F H : Hp} {σ σ' : St} {r r' : Env} {w : Om} {is : List Nat} (u : Up F is σ r σ' r') (h : Rel K C M A F H σ r w) (hM : ∀ i ∈ is, M.contains i = false) : Rel K C M A F H σ' r' w := by
  have oo : ∀ i d, i ∈ is → ownd M i d = false := fun i d hi => by unfold ownd; rw [hM i hi]; rfl
  have back : ∀ i d, r'[i]? = some (some d) → ownd M i d = true → σ'[i]? = σ[i]? ∧ r[i]? = some (some d) := fun i d e o => by
    rcases u.at_ i with ⟨h1, h2⟩ | ⟨hi, _⟩
    · exact ⟨h1, h2 ▸ e⟩
    · rw [oo i d hi] at o; cases o
  refine ⟨h.fh, h.om, by rw [u.l1, u.l2]; exact h.len, fun i d e q => ?_, fun i d e q => ?_, fun i j d e p hij h1 h2 o1 o2 h3 => ?_⟩
  · rcases u.at_ i with ⟨h1, h2⟩ | ⟨hi, v, d', h1, h2, h3⟩
    · rw [h2] at e
      rw [h1]
      exact h.fro i d e q
    · rw [h2] at e; cases e
      exact ⟨v, h1, .inl h3⟩
  · obtain ⟨b1, b2⟩ := back i d e q
    rw [b1]
    exact h.own i d b2 q
  · obtain ⟨b1, b2⟩ := back i d h1 o1
    obtain ⟨c1, c2⟩ := back j e h2 o2
    rw [b1] at h3
    rw [c1]
    exact h.dis i j d e p hij b2 c2 o1 o2 h3
mutual
def slotsT : Tg → List Nat
  | .nm i => [i]
  | .tp ts => slotsTs ts
def slotsTs : List Tg → List Nat
  | [] => []
  | t :: ts => slotsT t ++ slotsTs ts
end
/-- a target, by data -/
def tG (t : Tg) : TG := fun v σ H Q => ∃ F d r r', Rp F v d ∧ Same F H ∧ σ.length = r.length ∧ bindT t d r = some r' ∧ ∀ σ', Up F (slotsT t) σ r σ' r' → Q σ' H
def tGs (ts : List Tg) : TGs := fun vs σ H Q => ∃ F ds r r', RpAll F vs ds ∧ Same F H ∧ σ.length = r.length ∧ bindTs ts ds r = some r' ∧ ∀ σ', Up F (slotsTs ts) σ r σ' r' → Q σ' H
section
variable {X : Cx} {e : Expr} {es : List Expr} {pos : Pos}
theorem pgI {tg : Expr} {t t' : TG} (h : PG X tg t) (i : ∀ v σ H Q, t' v σ H Q → t v σ H Q) : PG X tg t' := ⟨fun pins s σ H v u Q I r q => h.run pins s σ H v u Q I r (i v σ H Q q)⟩
theorem pgsI {tg : List Expr} {t t' : TGs} (h : PGs X tg t) (i : ∀ v σ H Q, t' v σ H Q → t v σ H Q) : PGs X tg t' := ⟨fun pins s σ H v u Q I r q => h.run pins s σ H v u Q I r (i v σ H Q q)⟩
theorem pgd_name {i : Nat} {x : Str} (hN : X.N.Nodup) (hi : X.N[i]? = some x) (hx : Loc X.env.scope x) (hf : X.fn x = true ∨ X.env.scope.names.lookup x = some .local) : PG X (.Name x pos) (tG (.nm i)) :=
  pgI (pg_name hN hi hx hf) fun v σ H Q ⟨F, d, r, r', rp, s, l, e, q⟩ => by
    rw [bindT] at e; cases e
    exact q _ (Up.one l rp)
theorem pgsd_nil : PGs X [] (tGs []) := pgsI pgs_nil fun vs σ H Q ⟨F, ds, r, r', rp, s, l, e, q⟩ => by
  cases rp with
  | nil => rw [bindTs] at e; cases e; exact ⟨rfl, q _ .refl⟩
  | cons _ _ => simp [bindTs] at e
theorem pgsd_cons {t : Tg} {ts : List Tg} (h1 : PG X e (tG t)) (h2 : PGs X es (tGs ts)) (hs : (assignEach (e :: es) X.env).map (·.2) = assign e X.env :: (assignEach es X.env).map (·.2)) : PGs X (e :: es) (tGs (t :: ts)) :=
  pgsI (pgs_cons h1 h2 hs) fun vs σ H Q ⟨F, ds, r, r', rp, s, l, e, q⟩ => by
    cases rp with
    | nil => simp [bindTs] at e
    | @cons v vs' d ds' rp1 rps =>
      rw [bindTs] at e
      cases h : bindT t d r with
      | none => rw [h] at e; cases e
      | some r1 =>
        rw [h] at e
        refine ⟨v, vs', rfl, F, d, r, r1, rp1, s, l, h, fun σ1 u1 => ⟨F, ds', r1, r', rps, s, by rw [u1.l1, u1.l2]; exact l, e, fun σ2 u2 => q σ2 ?_⟩⟩
        rw [slotsTs]
        exact u1.trans u2
theorem pgd_tup {ts : List Tg} {k : Nat} (hc : X.calm = true) (h : PGs X es (tGs ts)) (hl : es.length = ts.length) (hn : (assignEach es X.env).length = es.length) (hst : (assignEach es X.env).findIdx? (·.1) = none) : PG X (.Tuple es k pos) (tG (.tp ts)) :=
  pgI (pg_tup (n := es.length) hc h hn hst) fun v σ H Q ⟨F, d, r, r', rp, s, l, e, q⟩ => by
    cases rp with
    | tup ha rps =>
      rw [bindT] at e
      have e2 : ∀ (ts : List Tg) (ds : List D) (r r' : Env), bindTs ts ds r = some r' → ds.length = ts.length := by
        intro ts
        induction ts with
        | nil => intro ds r r' h; cases ds with
          | nil => rfl
          | cons => simp [bindTs] at h
        | cons t ts ih => intro ds r r' h; cases ds with
          | nil => simp [bindTs] at h
          | cons d ds =>
            rw [bindTs] at h
            cases h1 : bindT t d r with
            | none => rw [h1] at h; cases h
            | some r1 => rw [h1] at h; rw [List.length_cons, List.length_cons, ih ds r1 r' h]
      refine ⟨_, _, rfl, .inl (.inl (s _ _ ha)), by rw [rps.length, hl]; exact e2 _ _ _ _ e, F, _, r, r', rps, s, l, e, fun σ' u => q σ' ?_⟩
      rw [slotsT]
      exact u
    | _ => simp [bindT] at e
end
/-- slots changed within vs only -/
theorem Up.wipe {F : Hp} {is vs : List Nat} {σ σ' : St} {r r' : Env} (u : Up F is σ r σ' r') (h : ∀ i ∈ is, i ∈ vs) : wipe σ' vs = wipe σ vs := by
  have key : ∀ (vs : List Nat) (τ : St) (i : Nat), (L2.wipe τ vs)[i]? = if i ∈ vs then (τ[i]?).map (fun _ => none) else τ[i]? := by
    intro vs
    induction vs with
    | nil => intro τ i; simp [L2.wipe]
    | cons v vs ih =>
      intro τ i
      unfold L2.wipe
      by_cases hv : v = i
      · subst hv
        by_cases hl : v < (L2.wipe τ vs).length
        · rw [List.getElem?_set_self hl, if_pos List.mem_cons_self]
          rw [wipe_length] at hl
          rw [List.getElem?_eq_getElem hl]; rfl
        · rw [List.getElem?_eq_none (by rw [List.length_set]; omega), if_pos List.mem_cons_self]
          rw [wipe_length] at hl
          rw [List.getElem?_eq_none (by omega)]; rfl
      · rw [List.getElem?_set_ne hv, ih τ i]
        have : (i ∈ v :: vs) ↔ i ∈ vs := by simp only [List.mem_cons]; constructor <;> intro q; (rcases q with q | q; exact absurd q.symm hv; exact q); exact .inr q
        simp only [this]
  apply List.ext_getElem?
  intro i
  rw [key, key]
  rcases u.at_ i with ⟨h1, _⟩ | ⟨hi, _⟩
  · rw [h1]
  · have hi' := h i hi
    rw [if_pos hi', if_pos hi']
    by_cases hl : i < σ.length
    · rw [List.getElem?_eq_getElem hl, List.getElem?_eq_getElem (by rw [u.l1]; exact hl)]; rfl
    · have hu := u.l1
      rw [List.getElem?_eq_none (show σ'.length ≤ i by omega), List.getElem?_eq_none (show σ.length ≤ i by omega)]
theorem wipeR_get : ∀ (vs : List Nat) (r : Env) (i : Nat) (d : D), (wipeR r vs)[i]? = some (some d) → r[i]? = some (some d) ∧ i ∉ vs
  | [], r, i, d, h => ⟨h, by simp⟩
  | v :: vs, r, i, d, h => by
    unfold wipeR at h
    by_cases hi : v = i
    · subst hi
      by_cases hv : v < (wipeR r vs).length
      · rw [List.getElem?_set_self hv] at h; cases h
      · rw [List.getElem?_eq_none (by rw [List.length_set]; omega)] at h; cases h
    · rw [List.getElem?_set_ne hi] at h
      obtain ⟨h1, h2⟩ := wipeR_get vs r i d h
      exact ⟨h1, by simp only [List.mem_cons, not_or]; exact ⟨fun e => hi e.symm, h2⟩⟩
theorem wipeR_len : ∀ (vs : List Nat) (r : Env), (wipeR r vs).length = r.length
  | [], _ => rfl
  | v :: vs, r => by unfold wipeR; rw [List.length_set, wipeR_len vs r]
theorem wipe_keep : ∀ (vs : List Nat) (σ : St) (i : Nat), i ∉ vs → (wipe σ vs)[i]? = σ[i]?
  | [], σ, i, _ => rfl
  | v :: vs, σ, i, h => by
    simp only [List.mem_cons, not_or] at h
    unfold wipe
    rw [List.getElem?_set_ne (fun e => h.1 e.symm)]
    exact wipe_keep vs σ i h.2
/-- the slots of the block forgotten on both sides -/
theorem Rel.wipe {K : PySem.W.Frag} {C : Addr} {M : List Nat} {A : List Addr} {F H : Hp} {σ : St} {r : Env} {w : Om} (h : Rel K C M A F H σ r w) (vs : List Nat) : Rel K C M A F H (wipe σ vs) (wipeR r vs) w := by
  refine ⟨h.fh, h.om, by rw [wipe_length, wipeR_len]; exact h.len, fun i d e q => ?_, fun i d e q => ?_, fun i j d e p hij h1 h2 o1 o2 h3 => ?_⟩
  · obtain ⟨e1, e2⟩ := wipeR_get vs r i d e
    rw [wipe_keep vs σ i e2]
    exact h.fro i d e1 q
  · obtain ⟨e1, e2⟩ := wipeR_get vs r i d e
    rw [wipe_keep vs σ i e2]
    exact h.own i d e1 q
  · obtain ⟨a1, a2⟩ := wipeR_get vs r i d h1
    obtain ⟨b1, b2⟩ := wipeR_get vs r j e h2
    rw [wipe_keep vs σ i a2] at h3
    rw [wipe_keep vs σ j b2]
    exact h.dis i j d e p hij a1 b1 o1 o2 h3

/-! ### what is walked -/
/-- J gives the data ds one after another, wherever the heaps go on as Step says -/
structure ItS (J : It) (A : List Addr) (F H : Hp) (ds : List D) : Prop where
  go : ∀ A2 F2 H2 (i : Nat), Step A F H A2 F2 H2 → i < ds.length → J.go i H2
  yld : ∀ A2 F2 H2 (i : Nat) x H3, Step A F H A2 F2 H2 → i < ds.length → J.yld i H2 x H3 → ∃ F3 d, Step A2 F2 H2 A2 F3 H3 ∧ (∀ p u, H2 p = some u → H3 p = some u) ∧ ds[i]? = some d ∧ Rp F3 x d
  stop : ∀ A2 F2 H2 (i : Nat), Step A F H A2 F2 H2 → ds.length ≤ i → J.stop i H2
/-- .. wherever what stands for good stands -/
structure ItF (J : It) (F : Hp) (ds : List D) : Prop where
  go : ∀ F2 H2 (i : Nat), Same F F2 → Same F2 H2 → i < ds.length → J.go i H2
  yld : ∀ (A2 : List Addr) F2 H2 (i : Nat) x H3, Same F F2 → Same F2 H2 → i < ds.length → J.yld i H2 x H3 → ∃ F3 d, Step A2 F2 H2 A2 F3 H3 ∧ (∀ p u, H2 p = some u → H3 p = some u) ∧ ds[i]? = some d ∧ Rp F3 x d
  stop : ∀ F2 H2 (i : Nat), Same F F2 → Same F2 H2 → ds.length ≤ i → J.stop i H2
theorem ItF.s {J : It} {A : List Addr} {F H : Hp} {ds : List D} (h : ItF J F ds) : ItS J A F H ds :=
  ⟨fun A2 F2 H2 i s => h.go F2 H2 i s.ff s.fh, fun A2 F2 H2 i x H3 s => h.yld A2 F2 H2 i x H3 s.ff s.fh, fun A2 F2 H2 i s => h.stop F2 H2 i s.ff s.fh⟩
theorem itF_list {K : PySem.W.Frag} {F : Hp} {a : Addr} {vs : List V} {ds : List D} (ha : F a = some (.lst vs)) (r : RpAll F vs ds) : ItF (Itl K a) F ds := by
  refine ⟨fun F2 H2 i s1 s2 hi => ?_, fun A2 F2 H2 i x H3 s1 s2 hi hy => ?_, fun F2 H2 i s1 s2 hi => ?_⟩
  · have hl : i < vs.length := by rw [r.length]; exact hi
    exact ⟨vs, vs[i], .inl (.inl (s2 _ _ (s1 _ _ ha))), List.getElem?_eq_getElem hl⟩
  · obtain ⟨rfl, h⟩ := hy
    obtain ⟨d, e1, e2⟩ := r.getV (h vs (.inl (.inl (s2 _ _ (s1 _ _ ha)))))
    exact ⟨F2, d, .refl s2, fun _ _ e => e, e1, e2.mono s1⟩
  · exact ⟨vs, .inl (.inl (s2 _ _ (s1 _ _ ha))), by rw [r.length]; exact hi⟩
theorem itF_tup {K : PySem.W.Frag} {F : Hp} {a : Addr} {vs : List V} {ds : List D} (ha : F a = some (.tup vs)) (r : RpAll F vs ds) : ItF (Itt K a) F ds := by
  refine ⟨fun F2 H2 i s1 s2 hi => ?_, fun A2 F2 H2 i x H3 s1 s2 hi hy => ?_, fun F2 H2 i s1 s2 hi => ?_⟩
  · have hl : i < vs.length := by rw [r.length]; exact hi
    exact ⟨vs, vs[i], .inl (.inl (s2 _ _ (s1 _ _ ha))), List.getElem?_eq_getElem hl⟩
  · obtain ⟨rfl, h⟩ := hy
    obtain ⟨d, e1, e2⟩ := r.getV (h vs (.inl (.inl (s2 _ _ (s1 _ _ ha)))))
    exact ⟨F2, d, .refl s2, fun _ _ e => e, e1, e2.mono s1⟩
  · exact ⟨vs, .inl (.inl (s2 _ _ (s1 _ _ ha))), by rw [r.length]; exact hi⟩
theorem itS_own {K : PySem.W.Frag} {A : List Addr} {F H : Hp} {a : Addr} {vs : List V} {ds : List D} (ha : H a = some (.lst vs)) (r : RpAll F vs ds) : ItS (Itl K a) A F H ds := by
  refine ⟨fun A2 F2 H2 i s hi => ?_, fun A2 F2 H2 i x H3 s hi hy => ?_, fun A2 F2 H2 i s hi => ?_⟩
  · have hl : i < vs.length := by rw [r.length]; exact hi
    exact ⟨vs, vs[i], .inl (.inl (s.hh _ _ ha rfl)), List.getElem?_eq_getElem hl⟩
  · obtain ⟨rfl, h⟩ := hy
    obtain ⟨d, e1, e2⟩ := r.getV (h vs (.inl (.inl (s.hh _ _ ha rfl))))
    exact ⟨F2, d, .refl s.fh, fun _ _ e => e, e1, e2.mono s.ff⟩
  · exact ⟨vs, .inl (.inl (s.hh _ _ ha rfl)), by rw [r.length]; exact hi⟩
theorem itF_rng (F : Hp) (i j : Int) : ItF (Itr i (j - i).toNat) F (rangeD i j) := by
  have hl : (rangeD i j).length = (j - i).toNat := by unfold rangeD; rw [List.length_map, List.length_range]
  refine ⟨fun F2 H2 k s1 s2 hk => ?_, fun A2 F2 H2 k x H3 s1 s2 hk hy => ?_, fun F2 H2 k s1 s2 hk => ?_⟩
  · show k < (j - i).toNat; omega
  · obtain ⟨rfl, rfl⟩ := hy
    refine ⟨F2, .int (i + (k : Nat)), .refl s2, fun _ _ e => e, ?_, .int _⟩
    unfold rangeD
    rw [List.getElem?_map, List.getElem?_range (by omega)]
    rfl
  · show (j - i).toNat ≤ k; omega
theorem enumD_get {ds : List D} {i : Nat} {d : D} (h : ds[i]? = some d) : (enumD ds)[i]? = some (.tuple [.int (i : Nat), d]) := by
  unfold enumD
  have hl : i < ds.length := (List.getElem?_eq_some_iff.mp h).1
  rw [List.getElem?_zipWith, List.getElem?_range hl, h]
theorem enumD_len (ds : List D) : (enumD ds).length = ds.length := by unfold enumD; simp
theorem same_new {F : Hp} {p : Addr} {u : HO} (h : F p = none) : Same F (upd F p u) := fun b x e => by rw [upd_ne (ne_of_none e h)]; exact e
theorem keep_new {H : Hp} {p : Addr} {u : HO} (h : H p = none) : ∀ b x, H b = some x → (upd H p u) b = some x := fun b x e => by rw [upd_ne (ne_of_none e h)]; exact e
theorem itF_enumL {K : PySem.W.Frag} {F : Hp} {a : Addr} {vs : List V} {ds : List D} (ha : F a = some (.lst vs)) (r : RpAll F vs ds) : ItF (Ite K a) F (enumD ds) := by
  refine ⟨fun F2 H2 i s1 s2 hi => ?_, fun A2 F2 H2 i x H3 s1 s2 hi hy => ?_, fun F2 H2 i s1 s2 hi => ?_⟩
  · rw [enumD_len] at hi
    have hl : i < vs.length := by rw [r.length]; exact hi
    exact ⟨vs, vs[i], .inl (.inl (s2 _ _ (s1 _ _ ha))), List.getElem?_eq_getElem hl⟩
  · obtain ⟨T, y, rfl, hT, rfl, h⟩ := hy
    obtain ⟨d, e1, e2⟩ := r.getV (h vs (.inl (.inl (s2 _ _ (s1 _ _ ha)))))
    refine ⟨upd F2 T (.tup [.int (i : Nat), y]), _, .new s2 hT, keep_new hT, enumD_get e1, .tup upd_same ?_⟩
    exact .cons (.int _) (.cons ((e2.mono s1).mono (same_new (s2.free hT))) .nil)
  · rw [enumD_len] at hi
    exact ⟨vs, .inl (.inl (s2 _ _ (s1 _ _ ha))), by rw [r.length]; exact hi⟩
/-- the reading of a source -/
def PostI (G : Cg) (frz : Bool) (R : It → Hp → Prop) (σ : St) (A : List Addr) (F H : Hp) : RL → Om → Prop
  | .vals ds, w => ∀ J A' F' H', Step A F H A' F' H' → Omg G.C A' F' H' w → (if frz = true then ItF J F' ds else ItS J A' F' H' ds) → R J H'
  | .exc x, w => ∀ cls dd A' F' H', Step A F H A' F' H' → Omg G.C A' F' H' w → XRep G.ec F' H' cls dd x → G.W cls dd σ H'
def tI (G : Cg) (frz : Bool) (e : Exs) : TI := fun σ H R => ∃ A F r w x w', Rel G.K G.C G.M A F H σ r w ∧ e G.c r w = some (x, w') ∧ PostI G frz R σ A F H x w'

section
variable {X : Cx} {G : Cg} {a b tg elt : Expr} {da db : Ex} {des : Exs} {pos : Pos}
theorem tI_imp {frz : Bool} {e : Exs} {R R' : It → Hp → Prop} {σ : St} {H : Hp} (h : tI G frz e σ H R) (i : ∀ J H, R J H → R' J H) : tI G frz e σ H R' := by
  obtain ⟨A, F, r, w, x, w', rel, e, post⟩ := h
  refine ⟨A, F, r, w, x, w', rel, e, ?_⟩
  cases x with
  | vals d => exact fun v A' F' H' s o q => i _ _ (post v A' F' H' s o q)
  | exc x => exact post
/-- over a value that stands for good: a list -/
theorem seq_list {σ : St} {H : Hp} {R : It → Hp → Prop} {frz : Bool} {rp : List Addr → Hp → Hp → V → D → Prop} (h : tI G frz (iSeq da) σ H R)
    (hrp : ∀ A F H v d ds, Same F H → rp A F H v d → items d = some ds → (∃ a vs, v = .ref a ∧ H a = some (.lst vs) ∧ (∃ xs, SqL X.K H a xs) ∧ (if frz = true then ItF (Itl X.K a) F ds else ItS (Itl X.K a) A F H ds)) ∨ (∃ a vs, v = .ref a ∧ F a = some (.tup vs) ∧ RpAll F vs ds)) :
    ∃ A F r w x w', Rel G.K G.C G.M A F H σ r w ∧ da G.c r w = some (x, w') ∧ Post G rp (fun v H1 => (∃ a, v = .ref a ∧ (∃ xs, SqL X.K H1 a xs) ∧ R (Itl X.K a) H1) ∨ (∃ a, v = .ref a ∧ (∃ xs, SqT X.K H1 a xs) ∧ R (Itt X.K a) H1)) σ A F H x w' := by
  obtain ⟨A, F, r, w, x, w', rel, e, post⟩ := h
  unfold iSeq at e
  cases h1 : da G.c r w with
  | none => rw [h1] at e; cases e
  | some pr =>
    obtain ⟨x1, w1⟩ := pr
    rw [h1] at e
    cases x1 with
    | exc y => cases e; exact ⟨A, F, r, w, .exc y, _, rel, h1, post⟩
    | val d =>
      simp only at e
      rw [Option.map_eq_some_iff] at e
      obtain ⟨ds, hi, e⟩ := e
      cases e
      refine ⟨A, F, r, w, .val d, _, rel, h1, fun v A1 F1 H1 s1 o1 r1 => ?_⟩
      rcases hrp A1 F1 H1 v d ds s1.fh r1 hi with ⟨a, vs, rfl, ha, hx, hit⟩ | ⟨a, vs, rfl, ha, hr⟩
      · exact .inl ⟨a, rfl, hx, post _ A1 F1 H1 s1 o1 hit⟩
      · refine .inr ⟨a, rfl, ⟨vs, .inl (.inl (s1.fh _ _ ha))⟩, post _ A1 F1 H1 s1 o1 ?_⟩
        split
        · exact itF_tup ha hr
        · exact (itF_tup ha hr).s
/-- an expression whose value is a list or a tuple, walked -/
theorem pi_seq {t : TE} (h : PE X a t) : PI X tg a (fun σ H R => t σ H fun v H1 => (∃ p, v = .ref p ∧ (∃ xs, SqL X.K H1 p xs) ∧ R (Itl X.K p) H1) ∨ (∃ p, v = .ref p ∧ (∃ xs, SqT X.K H1 p xs) ∧ R (Itt X.K p) H1)) := by
  refine ⟨fun pins s σ H R I hq => ?_⟩
  refine thn (h.run pins s σ H _ I hq) fun v s1 ⟨x, H1, I1, r1, q1⟩ => ?_
  rcases q1 with ⟨p, e, hx, q⟩ | ⟨p, e, hx, q⟩
  · subst e
    cases r1
    obtain ⟨xs, hq⟩ := hx
    obtain ⟨its, rv, pl, hz⟩ := I1.list hq
    refine wpAny_pyIter_list pl.isList ?_
    refine ⟨s1.heap.objs.size, [s1.heap.objs.size], _, _, H1, rfl, I1.kept (t' := s1.toks) fun b o e => Heap.get?_push_of_some _ e, turn_list p _, ⟨_, Heap.get?_push_size _ rfl, rfl, rfl⟩, fun b hb => ?_, q⟩
    have e : b = s1.heap.objs.size := by simpa using hb
    subst e
    exact I1.fpOk (Nat.le_refl _) (I1.hok.fresh (Nat.le_refl _))
  · subst e
    cases r1
    obtain ⟨xs, hq⟩ := hx
    obtain ⟨its, rv, pl, hz⟩ := I1.tuple hq
    refine wpAny_pyIter_tuple (show s1.heap.IsTuple p its.toArray from pl) ?_
    refine ⟨s1.heap.objs.size, [s1.heap.objs.size], _, _, H1, rfl, I1.kept (t' := s1.toks) fun b o e => Heap.get?_push_of_some _ e, turn_tuple p _, ⟨_, Heap.get?_push_size _ rfl, rfl, rfl⟩, fun b hb => ?_, q⟩
    have e : b = s1.heap.objs.size := by simpa using hb
    subst e
    exact I1.fpOk (Nat.le_refl _) (I1.hok.fresh (Nat.le_refl _))
theorem pid_seqF (h : PE X a (tD G da)) : PI X tg a (tI G true (iSeq da)) := piI (pi_seq h) fun σ H R q => by
  refine seq_list (rp := fun A F _ v d => Rt G.K A F v d) q fun A F H v d ds s r hi => ?_
  rcases items_some hi with rfl | rfl
  · have r := r.plain rfl
    cases r with
    | lst ha hr => exact .inl ⟨_, _, rfl, s _ _ ha, ⟨_, .inl (.inl (s _ _ ha))⟩, by rw [if_pos rfl]; exact itF_list ha hr⟩
  · have r := r.plain rfl
    cases r with
    | tup ha hr => exact .inr ⟨_, _, rfl, ha, hr⟩
theorem pid_seqS (h : PE X a (tO G da)) : PI X tg a (tI G false (iSeq da)) := piI (pi_seq h) fun σ H R q => by
  refine seq_list (rp := fun A F H v d => Ro G.K A F H v d) q fun A F H v d ds s r hi => ?_
  rcases items_some hi with rfl | rfl
  · obtain ⟨p, vs, rfl, ha, hr⟩ := r.lst s
    exact .inl ⟨p, vs, rfl, ha, ⟨vs, .inl (.inl ha)⟩, by rw [if_neg (by decide)]; exact itS_own ha hr⟩
  · obtain ⟨p, vs, rfl, ha, hr⟩ := r.tup
    exact .inr ⟨p, vs, rfl, ha, hr⟩
/-- range(n), range(a, b) -/
theorem rng_args {frz : Bool} {R : It → Hp → Prop} {σ : St} {H : Hp} (h : tI G frz (iRng des) σ H R) : tOs G des σ H fun vs H1 => (∃ j : Int, vs = [.int j] ∧ -(2 ^ 62) ≤ j ∧ j < 2 ^ 62 ∧ R (Itr 0 j.toNat) H1) ∨ (∃ i j : Int, vs = [.int i, .int j] ∧ (-(2 ^ 62) ≤ i ∧ i < 2 ^ 62 ∧ -(2 ^ 62) ≤ j ∧ j < 2 ^ 62) ∧ R (Itr i (j - i).toNat) H1) := by
  obtain ⟨A, F, r, w, x, w', rel, e, post⟩ := h
  unfold iRng at e
  have fin : ∀ {F : Hp} {A : List Addr} {H : Hp} {i j : Int}, (if frz = true then ItF (Itr i (j - i).toNat) F (rangeD i j) else ItS (Itr i (j - i).toNat) A F H (rangeD i j)) := fun {F A H i j} => by
    split
    · exact itF_rng F i j
    · exact (itF_rng F i j).s
  split at e
  · rename_i j w1 he
    split at e
    · rename_i hj; cases e
      unfold inR at hj
      simp only [Bool.and_eq_true, decide_eq_true_eq] at hj
      refine ⟨A, F, r, w, .vals [.int j], _, rel, he, fun vs A1 F1 H1 s1 o1 r1 => .inl ?_⟩
      obtain ⟨v, e1, e2⟩ := one_of r1
      subst e1
      refine ⟨j, by rw [e2.int], hj.1, hj.2, ?_⟩
      have := post (Itr 0 (j - 0).toNat) A1 F1 H1 s1 o1 fin
      rwa [Int.sub_zero] at this
    · cases e
  · rename_i i j w1 he
    split at e
    · rename_i hj; cases e
      unfold inR at hj
      simp only [Bool.and_eq_true, decide_eq_true_eq] at hj
      refine ⟨A, F, r, w, .vals [.int i, .int j], _, rel, he, fun vs A1 F1 H1 s1 o1 r1 => .inr ?_⟩
      obtain ⟨v, u, e1, e2, e3⟩ := two_of r1
      subst e1
      exact ⟨i, j, by rw [e2.int, e3.int], ⟨hj.1.1, hj.1.2, hj.2.1, hj.2.2⟩, post _ A1 F1 H1 s1 o1 fin⟩
    · cases e
  · rename_i y w1 he
    cases e
    exact ⟨A, F, r, w, .exc y, _, rel, he, post⟩
  · cases e
where
  one_of {K : PySem.W.Frag} {A : List Addr} {F H : Hp} {vs : List V} {d : D} (h : RoAll K A F H vs [d]) : ∃ v, vs = [v] ∧ Ro K A F H v d := by
    cases h with
    | cons a t => cases t; exact ⟨_, rfl, a⟩
  two_of {K : PySem.W.Frag} {A : List Addr} {F H : Hp} {vs : List V} {d e : D} (h : RoAll K A F H vs [d, e]) : ∃ v u, vs = [v, u] ∧ Ro K A F H v d ∧ Ro K A F H u e := by
    cases h with
    | cons a t =>
      cases t with
      | cons b t => cases t; exact ⟨_, _, rfl, a, b⟩
/-- an argument list of one, of two -/
theorem dCons_some {c : Cf} {r : Env} {w w' : Om} {ds : List D} (h : dCons da des c r w = some (.vals ds, w')) : ∃ d ds' w1, ds = d :: ds' ∧ da c r w = some (.val d, w1) ∧ des c r w1 = some (.vals ds', w') := by
  unfold dCons at h
  cases h1 : da c r w with
  | none => rw [h1] at h; cases h
  | some p =>
    obtain ⟨x, w1⟩ := p
    rw [h1] at h
    cases x with
    | exc y => cases h
    | val d =>
      simp only at h
      cases h2 : des c r w1 with
      | none => rw [h2] at h; cases h
      | some p =>
        obtain ⟨x, w2⟩ := p
        rw [h2] at h
        cases x with
        | exc y => cases h
        | vals ds' => cases h; exact ⟨d, ds', w1, rfl, rfl, h2⟩
theorem dNil_some {c : Cf} {r : Env} {w w' : Om} {ds : List D} (h : dNil c r w = some (.vals ds, w')) : ds = [] := by cases h; rfl
theorem pid_rng1 {frz : Bool} {p : Pos} (hg : Gl X "range") (hm : X.mg "range" = none) (ha : PE X a (tO G da)) (hs : starEach [a] X.env = [(false, eval a X.env)]) : PI X tg (.Call (.Name "range" p) [a] [] pos) (tI G frz (iRng (dCons da dNil))) :=
  piI (pi_range1 hg hm (pao_cons ha pao_nil (by rw [hs]; rfl)) hs) fun σ H R q => by
    have h := rng_args q
    -- one value comes
    obtain ⟨A, F, r, w, x, w', rel, e, post⟩ := h
    refine ⟨A, F, r, w, x, w', rel, e, ?_⟩
    cases x with
    | exc y => exact post
    | vals ds =>
      intro vs A1 F1 H1 s1 o1 r1
      rcases post vs A1 F1 H1 s1 o1 r1 with ⟨j, h1, h2, h3, h4⟩ | ⟨i, j, h1, _⟩
      · exact ⟨j, h1, h2, h3, h4⟩
      · have hl : ds.length = 1 := by
          obtain ⟨d, ds', w1, rfl, _, e2⟩ := dCons_some e
          rw [dNil_some e2]; rfl
        subst h1
        cases r1 with
        | cons _ t => cases t with
          | cons _ t => cases t; simp at hl
theorem pid_rng2 {frz : Bool} {p : Pos} (hg : Gl X "range") (hm : X.mg "range" = none) (ha : PE X a (tO G da)) (hb : PE X b (tO G db)) (hs : starEach [a, b] X.env = [(false, eval a X.env), (false, eval b X.env)]) (hs2 : starEach [b] X.env = [(false, eval b X.env)]) : PI X tg (.Call (.Name "range" p) [a, b] [] pos) (tI G frz (iRng (dCons da (dCons db dNil)))) :=
  piI (pi_range2 hg hm (pao_cons ha (pao_cons hb pao_nil (by rw [hs2]; rfl)) (by rw [hs, hs2])) hs hs2) fun σ H R q => by
    have h := rng_args q
    obtain ⟨A, F, r, w, x, w', rel, e, post⟩ := h
    refine ⟨A, F, r, w, x, w', rel, e, ?_⟩
    cases x with
    | exc y => exact post
    | vals ds =>
      intro vs A1 F1 H1 s1 o1 r1
      rcases post vs A1 F1 H1 s1 o1 r1 with ⟨j, h1, _⟩ | ⟨i, j, h1, h2, h3⟩
      · have hl : ds.length = 2 := by
          obtain ⟨d, ds', w1, rfl, _, e2⟩ := dCons_some e
          obtain ⟨d2, ds2, w2, rfl, _, e3⟩ := dCons_some e2
          rw [dNil_some e3]; rfl
        subst h1
        cases r1 with
        | cons _ t => cases t; simp at hl
      · exact ⟨i, j, h1, h2, h3⟩
end
end Rx

set_option Elab.async false
set_option linter.all false
set_option maxRecDepth 100000
set_option maxHeartbeats 1000000
set_option autoImplicit false
namespace Rx
open PySem L2
/-! ### a new list that is not for good yet -/
def Frs (H F' H' : Hp) (v : V) (d : D) : Prop := ∃ (p : Addr) (vs : List V) (ds : List D), v = .ref p ∧ d = .list ds ∧ H p = none ∧ H' p = some (.lst vs) ∧ F' p = none ∧ RpAll F' vs ds
def PostF (G : Cg) (Q : VK) (σ : St) (A : List Addr) (F H : Hp) : R → Om → Prop
  | .val d, w => ∀ v A' F' H', Step A F H A' F' H' → Omg G.C A' F' H' w → Frs H F' H' v d → Q v H'
  | .exc x, w => ∀ cls dd A' F' H', Step A F H A' F' H' → Omg G.C A' F' H' w → XRep G.ec F' H' cls dd x → G.W cls dd σ H'
def tF (G : Cg) (e : Ex) : TE := fun σ H Q => ∃ A F r w x w', Rel G.K G.C G.M A F H σ r w ∧ e G.c r w = some (x, w') ∧ PostF G Q σ A F H x w'
theorem Step.fresh {A A' : List Addr} {F F' H H' : Hp} (s : Step A F H A' F' H') {p : Addr} (h : H' p = none) : H p = none := by
  cases e : H p with
  | none => rfl
  | some o =>
    cases o with
    | ins C dx fs => obtain ⟨fs', q⟩ := s.ins p C dx fs e; rw [h] at q; cases q
    | _ => have q := s.hh p _ e rfl; rw [h] at q; cases q
/-- it is made to stand for good -/
theorem Step.freeze {A A' : List Addr} {F F' H H' : Hp} (s : Step A F H A' F' H') {p : Addr} {u : HO} (h : H p = none) (hp : H' p = some u) (fp : F' p = none) : Step A F H A' (upd F' p u) H' := by
  refine ⟨s.ext, s.ff.trans (same_new fp), fun b x e => ?_, s.hh, s.ins, fun b x e => ?_⟩
  · by_cases hb : b = p
    · subst hb; rw [upd_same] at e; rw [hp]; exact e
    · rw [upd_ne hb] at e; exact s.fh b x e
  · rw [upd_ne (ne_of_none e h)]; exact s.old b x e
theorem Omg.freeze {C : Addr} {A : List Addr} {F H : Hp} {w : Om} (o : Omg C A F H w) {p : Addr} {vs : List V} (hp : H p = some (.lst vs)) (fp : F p = none) : Omg C A (upd F p (.lst vs)) H w := by
  refine ⟨o.len, o.nd, fun i a fs h1 h2 => ?_⟩
  obtain ⟨dx, us, e1, e2, r⟩ := o.at_ i a fs h1 h2
  have : a ≠ p := fun z => by subst z; rw [hp] at e1; cases e1
  exact ⟨dx, us, e1, by rw [upd_ne this]; exact e2, r.mono (same_new fp)⟩
theorem Frs.rt {K : PySem.W.Frag} {A : List Addr} {H F' H' : Hp} {v : V} {d : D} (h : Frs H F' H' v d) : ∃ (p : Addr) (vs : List V), H p = none ∧ H' p = some (.lst vs) ∧ F' p = none ∧ Rt K A (upd F' p (.lst vs)) v d := by
  obtain ⟨p, vs, ds, rfl, rfl, h1, h2, h3, r⟩ := h
  exact ⟨p, vs, h1, h2, h3, .inl (.lst upd_same (r.mono (same_new h3)))⟩
theorem tD_tF {G : Cg} {e : Ex} {σ : St} {H : Hp} {Q : VK} (h : tD G e σ H Q) : tF G e σ H Q := by
  obtain ⟨A, F, r, w, x, w', rel, he, post⟩ := h
  refine ⟨A, F, r, w, x, w', rel, he, ?_⟩
  cases x with
  | exc y => exact post
  | val d =>
    intro v A' F' H' s o q
    obtain ⟨p, vs, h1, h2, h3, rt⟩ := q.rt (K := G.K) (A := A')
    exact post v A' _ H' (s.freeze h1 h2 h3) (o.freeze h2 h3) rt
theorem wipe_wipe (σ : St) (vs : List Nat) : wipe (wipe σ vs) vs = wipe σ vs := by
  have key : ∀ (vs : List Nat) (τ : St) (i : Nat), (L2.wipe τ vs)[i]? = if i ∈ vs then (τ[i]?).map (fun _ => none) else τ[i]? := by
    intro vs
    induction vs with
    | nil => intro τ i; simp [L2.wipe]
    | cons v vs ih =>
      intro τ i
      unfold L2.wipe
      by_cases hv : v = i
      · subst hv
        by_cases hl : v < (L2.wipe τ vs).length
        · rw [List.getElem?_set_self hl, if_pos List.mem_cons_self]
          rw [wipe_length] at hl
          rw [List.getElem?_eq_getElem hl]; rfl
        · rw [List.getElem?_eq_none (by rw [List.length_set]; omega), if_pos List.mem_cons_self]
          rw [wipe_length] at hl
          rw [List.getElem?_eq_none (by omega)]; rfl
      · rw [List.getElem?_set_ne hv, ih τ i]
        have : (i ∈ v :: vs) ↔ i ∈ vs := by simp only [List.mem_cons]; constructor <;> intro q; (rcases q with q | q; exact absurd q.symm hv; exact q); exact .inr q
        simp only [this]
  apply List.ext_getElem?
  intro i
  rw [key, key]
  split
  · cases σ[i]? <;> rfl
  · rfl
/-- the context of a block: nothing is raised out of it -/
def mOut (M own : List Nat) : List Nat := M.filter fun i => !own.contains i
theorem mOut_not {M own : List Nat} {i : Nat} (h : i ∈ own) : (mOut M own).contains i = false := by
  rw [Bool.eq_false_iff]
  intro q
  have := List.mem_filter.mp (List.contains_iff_mem.mp q)
  simp [h] at this
theorem mOut_same {M own : List Nat} {i : Nat} (h : i ∉ own) : (mOut M own).contains i = M.contains i := by
  rw [Bool.eq_iff_iff, List.contains_iff_mem, List.contains_iff_mem]
  unfold mOut
  rw [List.mem_filter]
  simp [h]
theorem Rel.wipeM {K : PySem.W.Frag} {C : Addr} {M : List Nat} {A : List Addr} {F H : Hp} {σ : St} {r : Env} {w : Om} (h0 : Rel K C M A F H σ r w) (vs : List Nat) : Rel K C (mOut M vs) A F H (L2.wipe σ vs) (wipeR r vs) w := by
  have h := h0.wipe vs
  have key : ∀ (i : Nat) (d : D), (wipeR r vs)[i]? = some (some d) → ownd (mOut M vs) i d = ownd M i d := fun i d e => by
    unfold ownd; rw [mOut_same (wipeR_get vs r i d e).2]
  refine ⟨h.fh, h.om, h.len, fun i d e q => h.fro i d e (by rw [← key i d e]; exact q), fun i d e q => h.own i d e (by rw [← key i d e]; exact q), fun i j d e p hij h1 h2 o1 o2 h3 => h.dis i j d e p hij h1 h2 (by rw [← key i d h1]; exact o1) (by rw [← key j e h2]; exact o2) h3⟩
def Cg.blk (G : Cg) (own : List Nat) : Cg := { G with W := fun _ _ _ _ => False, M := mOut G.M own }
def tCond (G : Cg) : Option Ex → TT
  | none => tYes
  | some t => tT G t
theorem one_some {e : Ex} {c : Cf} {r : Env} {w w' : Om} {ys : List D} (h : one e c r w = some (ys, w')) : ∃ d, ys = [d] ∧ plain d = true ∧ e c r w = some (.val d, w') := by
  unfold one at h
  split at h
  · rename_i d w1 he
    split at h
    · rename_i hp; cases h; exact ⟨d, rfl, hp, he⟩
    · cases h
  · cases h
/-- a new object of a list under way is written -/
theorem Step.write {A A' : List Addr} {F F' H H' : Hp} (s : Step A F H A' F' H') {p : Addr} {u : HO} (h : H p = none) (fp : F' p = none) : Step A F H A' F' (upd H' p u) := by
  refine ⟨s.ext, s.ff, fun b x e => ?_, fun b x e i => ?_, fun b C dx fs e => ?_, s.old⟩
  · rw [upd_ne (ne_of_none e fp)]; exact s.fh b x e
  · rw [upd_ne (ne_of_none e h)]; exact s.hh b x e i
  · obtain ⟨fs', q⟩ := s.ins b C dx fs e
    exact ⟨fs', by rw [upd_ne (ne_of_none e h)]; exact q⟩
theorem Omg.write {C : Addr} {A : List Addr} {F H : Hp} {w : Om} (o : Omg C A F H w) {p : Addr} {vs : List V} {u : HO} (hp : H p = some (.lst vs)) : Omg C A F (upd H p u) w := by
  refine ⟨o.len, o.nd, fun i a fs h1 h2 => ?_⟩
  obtain ⟨dx, us, e1, e2, r⟩ := o.at_ i a fs h1 h2
  have : a ≠ p := fun z => by subst z; rw [hp] at e1; cases e1
  exact ⟨dx, us, by rw [upd_ne this]; exact e1, e2, r⟩
section
variable {G : Cg} {src : Exs} {tg : Tg} {cond : Option Ex} {elt : Ex} {own : List Nat} {σ : St} {H : Hp} {Q : VK}
theorem lc_read (hsl : ∀ i ∈ slotsT tg, i ∈ own) (h : tF G (dComp src tg cond elt own) σ H Q) : tLc (tI G false src) (tG tg) (tCond (G.blk own) cond) (tD (G.blk own) elt) own σ H Q := by
  obtain ⟨A, F, r, w, x, w', rel, e, post⟩ := h
  unfold dComp at e
  cases h1 : src G.c r w with
  | none => rw [h1] at e; cases e
  | some pr =>
    obtain ⟨x1, w1⟩ := pr
    rw [h1] at e
    cases x1 with
    | exc y => cases e; exact ⟨A, F, r, w, .exc y, _, rel, h1, post⟩
    | vals xs =>
      simp only at e
      cases h2 : compGo G.c (wipeR r own) tg cond (one elt) xs w1 with
      | none => rw [h2] at e; cases e
      | some pr =>
        obtain ⟨ys, w2⟩ := pr
        rw [h2] at e
        simp only at e
        split at e
        · rename_i hlen
          cases e
          refine ⟨A, F, r, w, .vals xs, w1, rel, h1, fun J A1 F1 H1 s1 o1 hit => fun Dd hD => ?_⟩
          rw [if_neg (by decide)] at hit
          have fD : F1 Dd = none := s1.fh.free hD
          refine ⟨fun i m Hc => m = xs.length - i ∧ i ≤ xs.length ∧ ∃ Ac Fc wc acc dacc rest, Step A1 F1 H1 Ac Fc Hc ∧ Omg G.C Ac Fc Hc wc ∧ Hc Dd = some (.lst acc) ∧ Fc Dd = none ∧ RpAll Fc acc dacc ∧ compGo G.c (wipeR r own) tg cond (one elt) (xs.drop i) wc = some (rest, w') ∧ dacc ++ rest = ys,
            ⟨xs.length, by simp, Nat.zero_le _, A1, F1, w1, [], [], ys, .newO s1.fh hD, o1.new (.newO s1.fh hD) (keep_new hD), upd_same, fD, .nil, by rw [List.drop_zero]; exact h2, by simp⟩, ?_⟩
          rintro i m Hc ⟨rfl, hi, Ac, Fc, wc, acc, dacc, rest, sc, oc, hDc, fDc, rc, gc, ec⟩
          by_cases hlt : i < xs.length
          · -- a turn
            have hdrop : xs.drop i = xs[i] :: xs.drop (i + 1) := List.drop_eq_getElem_cons hlt
            rw [hdrop] at gc
            unfold compGo at gc
            cases hb : bindT tg xs[i] (wipeR r own) with
            | none => rw [hb] at gc; cases gc
            | some r1 =>
              rw [hb] at gc
              simp only at gc
              refine .inr ⟨hit.go Ac Fc Hc i sc hlt, fun H' => (i + 1 ≤ xs.length ∧ ∃ Ac Fc wc acc dacc rest, Step A1 F1 H1 Ac Fc H' ∧ Omg G.C Ac Fc H' wc ∧ H' Dd = some (.lst acc) ∧ Fc Dd = none ∧ RpAll Fc acc dacc ∧ compGo G.c (wipeR r own) tg cond (one elt) (xs.drop (i + 1)) wc = some (rest, w') ∧ dacc ++ rest = ys), fun H' hn => ⟨xs.length - (i + 1), by omega, rfl, hn⟩, fun v H3 hy => ?_⟩
              obtain ⟨F3, d, s3, k3, ed, rv⟩ := hit.yld Ac Fc Hc i v H3 sc hlt hy
              have : d = xs[i] := by rw [List.getElem?_eq_getElem hlt] at ed; exact (Option.some.inj ed).symm
              subst this
              have sc3 := sc.trans s3
              have o3 := oc.new s3 k3
              have rel3 := ((rel.step (s1.trans sc3) o3).wipeM own)
              refine ⟨F3, xs[i], wipeR r own, r1, rv, s3.fh, rel3.len, hb, fun σ2 u2 => ⟨?_, ?_⟩⟩
              · rw [u2.wipe hsl, wipe_wipe]
              · have rel4 : Rel G.K G.C (mOut G.M own) Ac F3 H3 σ2 r1 wc := u2.rel rel3 fun j hj => mOut_not (hsl j hj)
                have hD3 : H3 Dd = some (.lst acc) := k3 _ _ hDc
                have fD3 : F3 Dd = none := by rw [s3.old _ _ hDc]; exact fDc
                -- what is left behind the test
                have key : ∀ (A4 : List Addr) (F4 H4 : Hp) (w4 : Om) (b : Bool), Step Ac F3 H3 A4 F4 H4 → Omg G.C A4 F4 H4 w4 →
                    (match b with
                      | false => compGo G.c (wipeR r own) tg cond (one elt) (xs.drop (i + 1)) w4
                      | true => match one elt G.c r1 w4 with
                        | none => none
                        | some (ys, w2) => (compGo G.c (wipeR r own) tg cond (one elt) (xs.drop (i + 1)) w2).map fun (zs, w3) => (ys ++ zs, w3)) = some (rest, w') →
                    if b = true then tD (G.blk own) elt σ2 H4 (fun y H5 => ∃ acc, H5 Dd = some (.lst acc) ∧ acc.length < sizeLine ∧ (i + 1 ≤ xs.length ∧ ∃ Ac Fc wc acc' dacc rest, Step A1 F1 H1 Ac Fc (upd H5 Dd (.lst (acc ++ [y]))) ∧ Omg G.C Ac Fc (upd H5 Dd (.lst (acc ++ [y]))) wc ∧ (upd H5 Dd (.lst (acc ++ [y]))) Dd = some (.lst acc') ∧ Fc Dd = none ∧ RpAll Fc acc' dacc ∧ compGo G.c (wipeR r own) tg cond (one elt) (xs.drop (i + 1)) wc = some (rest, w') ∧ dacc ++ rest = ys))
                    else (i + 1 ≤ xs.length ∧ ∃ Ac Fc wc acc dacc rest, Step A1 F1 H1 Ac Fc H4 ∧ Omg G.C Ac Fc H4 wc ∧ H4 Dd = some (.lst acc) ∧ Fc Dd = none ∧ RpAll Fc acc dacc ∧ compGo G.c (wipeR r own) tg cond (one elt) (xs.drop (i + 1)) wc = some (rest, w') ∧ dacc ++ rest = ys) := by
                  intro A4 F4 H4 w4 b s4 o4 hg
                  have hD4 : H4 Dd = some (.lst acc) := s4.hh _ _ hD3 rfl
                  have fD4 : F4 Dd = none := by rw [s4.old _ _ hD3]; exact fD3
                  cases b with
                  | false =>
                    rw [if_neg (by decide)]
                    exact ⟨by omega, A4, F4, w4, acc, dacc, rest, sc3.trans s4, o4, hD4, fD4, (rc.mono s3.ff).mono s4.ff, hg, ec⟩
                  | true =>
                    rw [if_pos rfl]
                    simp only at hg
                    cases hone : one elt G.c r1 w4 with
                    | none => rw [hone] at hg; cases hg
                    | some pr =>
                      obtain ⟨ys1, w5⟩ := pr
                      rw [hone] at hg
                      simp only at hg
                      rw [Option.map_eq_some_iff] at hg
                      obtain ⟨⟨zs, w6⟩, hg1, hg2⟩ := hg
                      simp only [Prod.mk.injEq] at hg2
                      obtain ⟨hr, hw⟩ := hg2
                      subst hw
                      obtain ⟨dy, rfl, hp, he⟩ := one_some hone
                      refine ⟨A4, F4, r1, w4, .val dy, w5, rel4.step s4 o4, he, fun y A5 F5 H5 s5 o5 r5 => ⟨acc, s5.hh _ _ hD4 rfl, ?_, by omega, A5, F5, w5, acc ++ [y], dacc ++ [dy], zs, ?_, ?_, upd_same, ?_, ?_, hg1, ?_⟩⟩
                      · have hl : acc.length < ys.length := by
                          rw [rc.length, ← ec, ← hr]
                          simp
                        exact Nat.lt_of_lt_of_le hl (zl hlen)
                      · exact ((sc3.trans s4).trans s5).write hD (by rw [s5.old _ _ hD4]; exact fD4)
                      · exact o5.write (s5.hh _ _ hD4 rfl)
                      · rw [s5.old _ _ hD4]; exact fD4
                      · exact (((rc.mono s3.ff).mono s4.ff).mono s5.ff).append (.cons (r5.plain hp) .nil)
                      · rw [← ec, ← hr, List.append_assoc]
                cases cond with
                | none => exact key Ac F3 H3 wc true (.refl s3.fh) o3 gc
                | some t =>
                  simp only at gc
                  cases ht : t G.c r1 wc with
                  | none => rw [ht] at gc; cases gc
                  | some pr =>
                    obtain ⟨xt, w4⟩ := pr
                    rw [ht] at gc
                    cases xt with
                    | exc y => cases gc
                    | val d =>
                      simp only at gc
                      cases htr : truth d with
                      | none => rw [htr] at gc; cases gc
                      | some b =>
                        rw [htr] at gc
                        refine ⟨Ac, F3, r1, wc, .val d, w4, rel4, ht, b, htr, fun A4 F4 H4 s4 o4 => key A4 F4 H4 w4 b s4 o4 ?_⟩
                        cases b with
                        | false => exact gc
                        | true => exact gc
          · have hi' : i = xs.length := by omega
            subst hi'
            rw [List.drop_length] at gc
            unfold compGo at gc
            cases gc
            refine .inl ⟨hit.stop Ac Fc Hc _ sc (Nat.le_refl _), post (.ref Dd) Ac Fc Hc (s1.trans sc) oc ⟨Dd, acc, ys, rfl, rfl, s1.fresh hD, hDc, fDc, ?_⟩⟩
            rw [List.append_nil] at ec
            rw [← ec]; exact rc
        · cases e
end
end Rx

set_option Elab.async false
set_option linter.all false
set_option maxRecDepth 100000
set_option maxHeartbeats 1000000
set_option autoImplicit false
namespace Rx
open PySem L2
/-! ### statements: the slots, and the heap since the def's entry -/
structure RelS (G : Cg) (A : List Addr) (F H : Hp) (σ : St) (r : Env) (w : Om) : Prop where
  rel : Rel G.K G.C G.M A F H σ r w
  ent : Step G.A0 G.F0 G.H0 A F H
  new : ∀ (i : Nat) (d : D) (p : Addr), r[i]? = some (some d) → ownd G.M i d = true → σ[i]? = some (some (.ref p)) → G.H0 p = none
theorem RelS.step {G : Cg} {A A' : List Addr} {F H F' H' : Hp} {σ : St} {r : Env} {w w' : Om} (h : RelS G A F H σ r w) (s : Step A F H A' F' H') (o : Omg G.C A' F' H' w') : RelS G A' F' H' σ r w' := ⟨h.rel.step s o, h.ent.trans s, h.new⟩
def PostS (G : Cg) (Dd : Ends) (F : Hp) : Out → Om → Prop
  | .next r, w => ∀ σ A' F' H', RelS G A' F' H' σ r w → Same F F' → Dd.nx σ H'
  | .ret d, w => ∀ v A' F' H', Step G.A0 G.F0 G.H0 A' F' H' → Omg G.C A' F' H' w → Rt G.K A' F' v d → Dd.rt v H'
  | .exc x r, w => ∀ cls dd σ A' F' H', RelS G A' F' H' σ r w → XRep G.ec F' H' cls dd x → G.W cls dd σ H'
def tS (G : Cg) (s : Sx) : TS := fun Dd σ H => ∃ A F r w x w', RelS G A F H σ r w ∧ s G.c r w = some (x, w') ∧ PostS G Dd F x w'
section
variable {X : Cx} {G : Cg} {a b c e : Expr} {st : Stmt} {rest sa sb : List Stmt} {da db dc de : Ex} {dsa dsb : Sx} {pos : Pos}
/-- an expression ahead of what follows in a statement -/
theorem tO_of {A : List Addr} {F H : Hp} {σ : St} {r : Env} {w w1 : Om} {x : R} {Q : VK} (rs : RelS G A F H σ r w) (he : de G.c r w = some (x, w1))
    (hv : ∀ d, x = .val d → ∀ v A' F' H', Step A F H A' F' H' → RelS G A' F' H' σ r w1 → Ro G.K A' F' H' v d → Q v H')
    (hx : ∀ y, x = .exc y → ∀ cls dd A' F' H', RelS G A' F' H' σ r w1 → XRep G.ec F' H' cls dd y → G.W cls dd σ H') : tO G de σ H Q := by
  refine ⟨A, F, r, w, x, w1, rs.rel, he, ?_⟩
  cases x with
  | val d => exact fun v A' F' H' s o ro => hv d rfl v A' F' H' s (rs.step s o) ro
  | exc y => exact fun cls dd A' F' H' s o q => hx y rfl cls dd A' F' H' (rs.step s o) q
theorem tD_of {A : List Addr} {F H : Hp} {σ : St} {r : Env} {w w1 : Om} {x : R} {Q : VK} (rs : RelS G A F H σ r w) (he : de G.c r w = some (x, w1))
    (hv : ∀ d, x = .val d → ∀ v A' F' H', Step A F H A' F' H' → RelS G A' F' H' σ r w1 → Rt G.K A' F' v d → Q v H')
    (hx : ∀ y, x = .exc y → ∀ cls dd A' F' H', RelS G A' F' H' σ r w1 → XRep G.ec F' H' cls dd y → G.W cls dd σ H') : tD G de σ H Q := by
  refine ⟨A, F, r, w, x, w1, rs.rel, he, ?_⟩
  cases x with
  | val d => exact fun v A' F' H' s o ro => hv d rfl v A' F' H' s (rs.step s o) ro
  | exc y => exact fun cls dd A' F' H' s o q => hx y rfl cls dd A' F' H' (rs.step s o) q
theorem tT_of {A : List Addr} {F H : Hp} {σ : St} {r : Env} {w w1 : Om} {x : R} {Q : Bool → Hp → Prop} (rs : RelS G A F H σ r w) (he : de G.c r w = some (x, w1))
    (hv : ∀ d, x = .val d → ∃ b, truth d = some b ∧ ∀ A' F' H', Step A F H A' F' H' → RelS G A' F' H' σ r w1 → Q b H')
    (hx : ∀ y, x = .exc y → ∀ cls dd A' F' H', RelS G A' F' H' σ r w1 → XRep G.ec F' H' cls dd y → G.W cls dd σ H') : tT G de σ H Q := by
  refine ⟨A, F, r, w, x, w1, rs.rel, he, ?_⟩
  cases x with
  | val d =>
    obtain ⟨b, hb, q⟩ := hv d rfl
    exact ⟨b, hb, fun A' F' H' s o => q A' F' H' s (rs.step s o)⟩
  | exc y => exact fun cls dd A' F' H' s o q => hx y rfl cls dd A' F' H' (rs.step s o) q
theorem PostS.mono {Dd : Ends} {F F1 : Hp} {x : Out} {w : Om} (h : PostS G Dd F x w) (s : Same F F1) : PostS G Dd F1 x w := by
  cases x with
  | next r => exact fun σ A' F' H' rs k => h σ A' F' H' rs (s.trans k)
  | ret d => exact h
  | exc x r => exact h
/-! ### blocks -/
theorem pssd_nil : PSs X [] (tS G sPass) := pssI pss_nil fun Dd σ H ⟨A, F, r, w, x, w', rs, e, post⟩ => by
  cases e
  exact post σ A F H rs (.refl _)
theorem psd_pass : PS X (.Pass pos) (tS G sPass) := psI ps_pass fun Dd σ H ⟨A, F, r, w, x, w', rs, e, post⟩ => by
  cases e
  exact post σ A F H rs (.refl _)
theorem pssd_one (h : PS X st (tS G dsa)) : PSs X [st] (tS G dsa) := pss_one h
theorem pssd_cons (h1 : PS X st (tS G dsa)) (h2 : PSs X rest (tS G dsb)) : PSs X (st :: rest) (tS G (sSeq dsa dsb)) :=
  pssI (pss_cons h1 h2) fun Dd σ H ⟨A, F, r, w, x, w', rs, e, post⟩ => by
    unfold sSeq at e
    cases h1 : dsa G.c r w with
    | none => rw [h1] at e; cases e
    | some pr =>
      obtain ⟨x1, w1⟩ := pr
      rw [h1] at e
      refine ⟨A, F, r, w, x1, w1, rs, h1, ?_⟩
      cases x1 with
      | ret d => cases e; exact post
      | exc y r1 => cases e; exact post
      | next r1 => exact fun σ1 A1 F1 H1 rs1 k1 => ⟨A1, F1, r1, w1, x, w', rs1, e, post.mono k1⟩
theorem psd_if (hc : PT X c (tT G dc)) (ha : PSs X sa (tS G dsa)) (hb : PSs X sb (tS G dsb)) : PS X (.If c sa sb pos) (tS G (sIf dc dsa dsb)) :=
  psI (ps_if hc ha hb) fun Dd σ H ⟨A, F, r, w, x, w', rs, e, post⟩ => by
    unfold sIf at e
    cases h1 : dc G.c r w with
    | none => rw [h1] at e; cases e
    | some pr =>
      obtain ⟨x1, w1⟩ := pr
      rw [h1] at e
      refine tT_of rs h1 (fun d hd => ?_) (fun y hy cls dd A' F' H' rs' xr => ?_)
      · subst hd
        simp only at e
        cases ht : truth d with
        | none => rw [ht] at e; cases e
        | some k =>
          rw [ht] at e
          refine ⟨k, rfl, fun A1 F1 H1 s1 rs1 => ?_⟩
          cases k with
          | true => exact iteT ⟨A1, F1, r, w1, x, w', rs1, e, post.mono s1.ff⟩
          | false => exact iteF ⟨A1, F1, r, w1, x, w', rs1, e, post.mono s1.ff⟩
      · subst hy
        cases e
        exact post cls dd σ A' F' H' rs' xr
/-- a list of a slot made to stand for good -/
theorem RelS.rt {A : List Addr} {F H : Hp} {σ : St} {r : Env} {w : Om} {v : V} {d : D} (rs : RelS G A F H σ r w) (ro : Ro G.K A F H v d) (hv : ∀ p, Ow F H v d → v = .ref p → G.H0 p = none) : ∃ F', Step G.A0 G.F0 G.H0 A F' H ∧ Omg G.C A F' H w ∧ Rt G.K A F' v d := by
  rcases ro with rt | ow
  · exact ⟨F, rs.ent, rs.rel.om, rt⟩
  · have ow' := ow
    obtain ⟨p, vs, ds, rfl, rfl, hp, fp, rv⟩ := ow
    exact ⟨upd F p (.lst vs), rs.ent.freeze (hv p ow' rfl) hp fp, rs.rel.om.freeze hp fp, .inl (.lst upd_same (rv.mono (same_new fp)))⟩
theorem psd_ret (he : PE X e (tD G de)) : PS X (.Return (some e) pos) (tS G (sRet de)) :=
  psI (ps_ret he) fun Dd σ H ⟨A, F, r, w, x, w', rs, e, post⟩ => by
    unfold sRet at e
    cases h1 : de G.c r w with
    | none => rw [h1] at e; cases e
    | some pr =>
      obtain ⟨x1, w1⟩ := pr
      rw [h1] at e
      refine tD_of rs h1 (fun d hd v A1 F1 H1 s1 rs1 rt => ?_) (fun y hy cls dd A' F' H' rs' xr => ?_)
      · subst hd; cases e
        exact post v A1 F1 H1 rs1.ent rs1.rel.om rt
      · subst hy; cases e
        exact post cls dd σ A' F' H' rs' xr
theorem dVar_some {i : Nat} {c : Cf} {r : Env} {w w' : Om} {x : R} (h : dVar i c r w = some (x, w')) : ∃ d, r[i]? = some (some d) ∧ x = .val d ∧ w' = w := by
  unfold dVar at h
  split at h
  · rename_i d hr; cases h; exact ⟨d, hr, rfl, rfl⟩
  · cases h
/-- return x, x a list that was changed in place -/
theorem psd_retV {i : Nat} {x : Str} {p2 : Pos} (hN : X.N[i]? = some x) (hv : Vis X.env.scope x) (hd : (x == ("__debug__" : Str)) = false) (hcd : (x == ("__classdict__" : Str)) = false) : PS X (.Return (some (.Name x p2)) pos) (tS G (sRet (dVar i))) :=
  psI (ps_ret (pe_var hN hv hd hcd)) fun Dd σ H ⟨A, F, r, w, y, w', rs, e, post⟩ => by
    unfold sRet at e
    cases h1 : dVar i G.c r w with
    | none => rw [h1] at e; cases e
    | some pr =>
      obtain ⟨x1, w1⟩ := pr
      obtain ⟨d, hr, rfl, rfl⟩ := dVar_some h1
      rw [h1] at e
      cases e
      cases q : ownd G.M i d with
      | false =>
        obtain ⟨v, e1, e2⟩ := rs.rel.fro i d hr q
        exact ⟨v, e1, post v A F H rs.ent rs.rel.om e2⟩
      | true =>
        obtain ⟨v, e1, e2⟩ := rs.rel.own i d hr q
        obtain ⟨F', s', o', rt⟩ := rs.rt (.inr e2) fun p _ hp => rs.new i d p hr q (by rw [e1, hp])
        exact ⟨v, e1, post v A F' H s' o' rt⟩
theorem psd_retN : PS X (.Return none pos) (tS G (sRet (dC .none))) := psI ps_retN fun Dd σ H ⟨A, F, r, w, x, w', rs, e, post⟩ => by
  cases e
  exact post .non A F H rs.ent rs.rel.om (.inl .non)
theorem psd_expr (he : PE X e (tO G de)) (hs : swapsWith e none pos.line X.env = pure false) : PS X (.Expr e pos) (tS G (sExpr de)) :=
  psI (ps_expr he hs) fun Dd σ H ⟨A, F, r, w, x, w', rs, e, post⟩ => by
    unfold sExpr at e
    cases h1 : de G.c r w with
    | none => rw [h1] at e; cases e
    | some pr =>
      obtain ⟨x1, w1⟩ := pr
      rw [h1] at e
      refine tO_of rs h1 (fun d hd v A1 F1 H1 s1 rs1 ro => ?_) (fun y hy cls dd A' F' H' rs' xr => ?_)
      · subst hd; cases e
        exact post σ A1 F1 H1 rs1 s1.ff
      · subst hy; cases e
        exact post cls dd σ A' F' H' rs' xr
/-! ### stores -/
theorem RelS.set {A : List Addr} {F H : Hp} {σ : St} {r : Env} {w : Om} {i : Nat} {v : V} {d : D} (rs : RelS G A F H σ r w) (rt : Rt G.K A F v d) (hd : ownd G.M i d = false) : RelS G A F H (σ.set i (some v)) (r.set i (some d)) w := by
  have old : ∀ j e, (r.set i (some d))[j]? = some (some e) → ownd G.M j e = true → (σ.set i (some v))[j]? = σ[j]? ∧ r[j]? = some (some e) := fun j e h o => by
    by_cases hj : i = j
    · subst hj
      by_cases hl : i < r.length
      · rw [List.getElem?_set_self hl] at h; cases h
        rw [hd] at o; cases o
      · rw [List.getElem?_eq_none (by rw [List.length_set]; omega)] at h; cases h
    · rw [List.getElem?_set_ne hj] at h
      exact ⟨List.getElem?_set_ne hj, h⟩
  refine ⟨⟨rs.rel.fh, rs.rel.om, by rw [List.length_set, List.length_set]; exact rs.rel.len, fun j e h o => ?_, fun j e h o => ?_, fun j k e f p hjk h1 h2 o1 o2 h3 => ?_⟩, rs.ent, fun j e p h o hp => ?_⟩
  · by_cases hj : i = j
    · subst hj
      by_cases hl : i < r.length
      · rw [List.getElem?_set_self hl] at h; cases h
        exact ⟨v, by rw [List.getElem?_set_self (by rw [rs.rel.len]; exact hl)], rt⟩
      · rw [List.getElem?_eq_none (by rw [List.length_set]; omega)] at h; cases h
    · rw [List.getElem?_set_ne hj] at h ⊢
      exact rs.rel.fro j e h o
  · obtain ⟨e1, e2⟩ := old j e h o
    rw [e1]; exact rs.rel.own j e e2 o
  · obtain ⟨e1, e2⟩ := old j e h1 o1
    obtain ⟨f1, f2⟩ := old k f h2 o2
    rw [e1] at h3; rw [f1]
    exact rs.rel.dis j k e f p hjk e2 f2 o1 o2 h3
  · obtain ⟨e1, e2⟩ := old j e h o
    rw [e1] at hp
    exact rs.new j e p e2 o hp
theorem psd_set {i : Nat} {x : Str} {p2 : Pos} (hN : X.N.Nodup) (hi : X.N[i]? = some x) (hx : Loc X.env.scope x) (he : PE X e (tD G de)) (hs : swapsWith e (some (.Name x p2)) pos.line X.env = pure false) (hf : X.fn x = true ∨ X.env.scope.names.lookup x = some .local) (hM : G.M.contains i = false) :
    PS X (.Assign [.Name x p2] e pos) (tS G (sAsg i de)) :=
  psI (ps_set hN hi hx he hs hf) fun Dd σ H ⟨A, F, r, w, x, w', rs, e, post⟩ => by
    unfold sAsg at e
    cases h1 : de G.c r w with
    | none => rw [h1] at e; cases e
    | some pr =>
      obtain ⟨x1, w1⟩ := pr
      rw [h1] at e
      refine tD_of rs h1 (fun d hd v A1 F1 H1 s1 rs1 rt => ?_) (fun y hy cls dd A' F' H' rs' xr => ?_)
      · subst hd; cases e
        exact post _ A1 F1 H1 (rs1.set rt (by unfold ownd; rw [hM]; rfl)) s1.ff
      · subst hy; cases e
        exact post cls dd σ A' F' H' rs' xr
theorem psd_setN {i : Nat} {x : Str} {p2 : Pos} (hN : X.N.Nodup) (hi : X.N[i]? = some x) (hx : Loc X.env.scope x) (he : PE X e (tD G de)) (hs : swapsWith e (some (.Name x p2)) pos.line X.env = pure false) (hf : X.fn x = true ∨ X.env.scope.names.lookup x = some .local) :
    PS X (.Assign [.Name x p2] e pos) (tS G (sAsgN i de)) :=
  psI (ps_set hN hi hx he hs hf) fun Dd σ H ⟨A, F, r, w, x, w', rs, e, post⟩ => by
    unfold sAsgN at e
    cases h1 : de G.c r w with
    | none => rw [h1] at e; cases e
    | some pr =>
      obtain ⟨x1, w1⟩ := pr
      rw [h1] at e
      refine tD_of rs h1 (fun d hd v A1 F1 H1 s1 rs1 rt => ?_) (fun y hy cls dd A' F' H' rs' xr => ?_)
      · subst hd
        simp only at e
        split at e
        · cases e
        · rename_i hl; cases e
          exact post _ A1 F1 H1 (rs1.set rt (by unfold ownd; rw [Bool.eq_false_iff.mpr hl, Bool.and_false])) s1.ff
      · subst hy; cases e
        exact post cls dd σ A' F' H' rs' xr
/-- a new list into the slot of one that is changed in place -/
theorem RelS.setF {A A' : List Addr} {F F' H H' : Hp} {σ : St} {r : Env} {w w' : Om} {i : Nat} {v : V} {d : D} (rs0 : RelS G A F H σ r w) (s : Step A F H A' F' H') (rs : RelS G A' F' H' σ r w') (fr : Frs H F' H' v d) (hM : G.M.contains i = true) : RelS G A' F' H' (σ.set i (some v)) (r.set i (some d)) w' := by
  obtain ⟨p, vs, ds, rfl, rfl, h1, h2, h3, rp⟩ := fr
  have ow : Ow F' H' (.ref p) (.list ds) := ⟨p, vs, ds, rfl, rfl, h2, h3, rp⟩
  have old : ∀ j e, j ≠ i → (r.set i (some (.list ds)))[j]? = some (some e) → (σ.set i (some (.ref p)))[j]? = σ[j]? ∧ r[j]? = some (some e) := fun j e hj h => by
    rw [List.getElem?_set_ne (Ne.symm hj)] at h
    exact ⟨List.getElem?_set_ne (Ne.symm hj), h⟩
  have self : ∀ e, (r.set i (some (.list ds)))[i]? = some (some e) → i < r.length ∧ e = .list ds := fun e h => by
    by_cases hl : i < r.length
    · rw [List.getElem?_set_self hl] at h; cases h; exact ⟨hl, rfl⟩
    · rw [List.getElem?_eq_none (by rw [List.length_set]; omega)] at h; cases h
  have apart : ∀ j e, r[j]? = some (some e) → ownd G.M j e = true → σ[j]? ≠ some (some (.ref p)) := fun j e h o z => by
    obtain ⟨v, e1, q, us, es, e2, _, hq, _⟩ := rs0.rel.own j e h o
    rw [z] at e1; cases e1; cases e2
    rw [h1] at hq; cases hq
  refine ⟨⟨rs.rel.fh, rs.rel.om, by rw [List.length_set, List.length_set]; exact rs.rel.len, fun j e h o => ?_, fun j e h o => ?_, fun j k e f q hjk g1 g2 o1 o2 g3 => ?_⟩, rs.ent, fun j e q h o hp => ?_⟩
  · by_cases hj : j = i
    · subst hj
      obtain ⟨_, rfl⟩ := self e h
      unfold ownd at o; rw [hM] at o; cases o
    · obtain ⟨e1, e2⟩ := old j e hj h
      rw [e1]; exact rs.rel.fro j e e2 o
  · by_cases hj : j = i
    · subst hj
      obtain ⟨hl, rfl⟩ := self e h
      exact ⟨_, by rw [List.getElem?_set_self (by rw [rs.rel.len]; exact hl)], ow⟩
    · obtain ⟨e1, e2⟩ := old j e hj h
      rw [e1]; exact rs.rel.own j e e2 o
  · by_cases hj : j = i
    · have hk : k ≠ i := fun z => hjk (hj.trans z.symm)
      obtain ⟨f1, f2⟩ := old k f hk g2
      subst hj
      obtain ⟨hl, rfl⟩ := self e g1
      rw [List.getElem?_set_self (by rw [rs.rel.len]; exact hl)] at g3
      cases g3
      rw [f1]
      exact apart k f f2 o2
    · obtain ⟨e1, e2⟩ := old j e hj g1
      rw [e1] at g3
      by_cases hk : k = i
      · subst hk
        obtain ⟨hl, rfl⟩ := self f g2
        rw [List.getElem?_set_self (by rw [rs.rel.len]; exact hl)]
        intro z
        cases z
        exact apart j e e2 o1 g3
      · obtain ⟨f1, f2⟩ := old k f hk g2
        rw [f1]
        exact rs.rel.dis j k e f q hjk e2 f2 o1 o2 g3
  · by_cases hj : j = i
    · subst hj
      obtain ⟨hl, rfl⟩ := self e h
      rw [List.getElem?_set_self (by rw [rs.rel.len]; exact hl)] at hp
      cases hp
      exact rs0.ent.fresh h1
    · obtain ⟨e1, e2⟩ := old j e hj h
      rw [e1] at hp
      exact rs.new j e q e2 o hp
theorem tF_of {A : List Addr} {F H : Hp} {σ : St} {r : Env} {w w1 : Om} {x : R} {Q : VK} (rs : RelS G A F H σ r w) (he : de G.c r w = some (x, w1))
    (hv : ∀ d, x = .val d → ∀ v A' F' H', Step A F H A' F' H' → RelS G A' F' H' σ r w1 → Frs H F' H' v d → Q v H')
    (hx : ∀ y, x = .exc y → ∀ cls dd A' F' H', RelS G A' F' H' σ r w1 → XRep G.ec F' H' cls dd y → G.W cls dd σ H') : tF G de σ H Q := by
  refine ⟨A, F, r, w, x, w1, rs.rel, he, ?_⟩
  cases x with
  | val d => exact fun v A' F' H' s o ro => hv d rfl v A' F' H' s (rs.step s o) ro
  | exc y => exact fun cls dd A' F' H' s o q => hx y rfl cls dd A' F' H' (rs.step s o) q
/-- the store of a new list, whatever the statement's form -/
theorem asgF {i : Nat} (hM : G.M.contains i = true) {Dd : Ends} {σ : St} {H : Hp} (h : tS G (sAsg i de) Dd σ H) : tF G de σ H fun v H1 => Dd.nx (σ.set i (some v)) H1 := by
  obtain ⟨A, F, r, w, x, w', rs, e, post⟩ := h
  unfold sAsg at e
  cases h1 : de G.c r w with
  | none => rw [h1] at e; cases e
  | some pr =>
    obtain ⟨x1, w1⟩ := pr
    rw [h1] at e
    refine tF_of rs h1 (fun d hd v A1 F1 H1 s1 rs1 fr => ?_) (fun y hy cls dd A' F' H' rs' xr => ?_)
    · subst hd; cases e
      exact post _ A1 F1 H1 (rs.setF s1 rs1 fr hM) s1.ff
    · subst hy; cases e
      exact post cls dd σ A' F' H' rs' xr
theorem asgD {i : Nat} (hM : G.M.contains i = false) {Dd : Ends} {σ : St} {H : Hp} (h : tS G (sAsg i de) Dd σ H) : tD G de σ H fun v H1 => Dd.nx (σ.set i (some v)) H1 := by
  obtain ⟨A, F, r, w, x, w', rs, e, post⟩ := h
  unfold sAsg at e
  cases h1 : de G.c r w with
  | none => rw [h1] at e; cases e
  | some pr =>
    obtain ⟨x1, w1⟩ := pr
    rw [h1] at e
    refine tD_of rs h1 (fun d hd v A1 F1 H1 s1 rs1 rt => ?_) (fun y hy cls dd A' F' H' rs' xr => ?_)
    · subst hd; cases e
      exact post _ A1 F1 H1 (rs1.set rt (by unfold ownd; rw [hM]; rfl)) s1.ff
    · subst hy; cases e
      exact post cls dd σ A' F' H' rs' xr
theorem psd_setF {i : Nat} {x : Str} {p2 : Pos} (hN : X.N.Nodup) (hi : X.N[i]? = some x) (hx : Loc X.env.scope x) (he : PE X e (tF G de)) (hs : swapsWith e (some (.Name x p2)) pos.line X.env = pure false) (hf : X.fn x = true ∨ X.env.scope.names.lookup x = some .local) (hM : G.M.contains i = true) :
    PS X (.Assign [.Name x p2] e pos) (tS G (sAsg i de)) := psI (ps_set hN hi hx he hs hf) fun Dd σ H h => asgF hM h
end
end Rx

set_option Elab.async false
set_option linter.all false
set_option maxRecDepth 100000
set_option maxHeartbeats 1000000
set_option autoImplicit false
namespace Rx
open PySem L2
section
variable {X : Cx} {G : Cg} {a b c e tg iter elt : Expr} {es : List Expr} {st : Stmt} {rest sa sb body : List Stmt} {da db dc de : Ex} {des : Exs} {dsa dsb dbd : Sx} {pos : Pos}
/-! ### a list changed in place -/
/-- the slot's list is written: vs to vs', ds to ds' -/
theorem RelS.write {A : List Addr} {F H : Hp} {σ : St} {r : Env} {w : Om} {i : Nat} {p : Addr} {vs vs' : List V} {ds ds' : List D} (rs : RelS G A F H σ r w) (hr : r[i]? = some (some (.list ds))) (hM : G.M.contains i = true) (hσ : σ[i]? = some (some (.ref p))) (hp : H p = some (.lst vs)) (fp : F p = none) (rp : RpAll F vs' ds') :
    RelS G A F (upd H p (.lst vs')) σ (r.set i (some (.list ds'))) w := by
  have oi : ∀ ds, ownd G.M i (.list ds) = true := fun ds => by unfold ownd; rw [hM]; rfl
  have hl : i < r.length := (List.getElem?_eq_some_iff.mp hr).1
  have n0 : G.H0 p = none := rs.new i _ p hr (oi _) hσ
  have old : ∀ j e, j ≠ i → (r.set i (some (.list ds')))[j]? = some (some e) → r[j]? = some (some e) := fun j e hj h => by
    rw [List.getElem?_set_ne (Ne.symm hj)] at h; exact h
  have self : ∀ e, (r.set i (some (.list ds')))[i]? = some (some e) → e = .list ds' := fun e h => by
    rw [List.getElem?_set_self hl] at h; cases h; rfl
  refine ⟨⟨fun b x e => ?_, rs.rel.om.write hp, by rw [List.length_set]; exact rs.rel.len, fun j e h o => ?_, fun j e h o => ?_, fun j k e f q hjk g1 g2 o1 o2 g3 => ?_⟩, rs.ent.write n0 fp, fun j e q h o hq => ?_⟩
  · rw [upd_ne (ne_of_none e fp)]; exact rs.rel.fh b x e
  · by_cases hj : j = i
    · subst hj
      rw [self e h, oi] at o; cases o
    · exact rs.rel.fro j e (old j e hj h) o
  · by_cases hj : j = i
    · subst hj
      have := self e h
      subst this
      exact ⟨_, hσ, p, vs', ds', rfl, rfl, upd_same, fp, rp⟩
    · obtain ⟨v, e1, q, us, es, e2, e3, hq, fq, rq⟩ := rs.rel.own j e (old j e hj h) o
      subst e2
      have : q ≠ p := fun z => by
        subst z
        exact rs.rel.dis j i e _ q hj (old j e hj h) hr o (oi _) e1 hσ
      exact ⟨_, e1, q, us, es, rfl, e3, by rw [upd_ne this]; exact hq, fq, rq⟩
  · by_cases hj : j = i
    · subst hj
      exact rs.rel.dis j k _ f q hjk hr (old k f (Ne.symm hjk) g2) (oi _) o2 g3
    · by_cases hk : k = i
      · subst hk
        exact rs.rel.dis j k e _ q hjk (old j e hj g1) hr o1 (oi _) g3
      · exact rs.rel.dis j k e f q hjk (old j e hj g1) (old k f hk g2) o1 o2 g3
  · by_cases hj : j = i
    · subst hj
      exact rs.new j _ q hr (oi _) hq
    · exact rs.new j e q (old j e hj h) o hq
/-- a slot is forgotten -/
theorem RelS.forget {A : List Addr} {F H : Hp} {σ : St} {r : Env} {w : Om} (rs : RelS G A F H σ r w) (j : Nat) : RelS G A F H σ (r.set j none) w := by
  have old : ∀ k e, (r.set j none)[k]? = some (some e) → r[k]? = some (some e) := fun k e h => by
    by_cases hk : j = k
    · subst hk
      by_cases hl : j < r.length
      · rw [List.getElem?_set_self hl] at h; cases h
      · rw [List.getElem?_eq_none (by rw [List.length_set]; omega)] at h; cases h
    · rw [List.getElem?_set_ne hk] at h; exact h
  exact ⟨⟨rs.rel.fh, rs.rel.om, by rw [List.length_set]; exact rs.rel.len, fun k e h o => rs.rel.fro k e (old k e h) o, fun k e h o => rs.rel.own k e (old k e h) o, fun k l e f q hkl g1 g2 o1 o2 g3 => rs.rel.dis k l e f q hkl (old k e g1) (old l f g2) o1 o2 g3⟩, rs.ent, fun k e q h o hq => rs.new k e q (old k e h) o hq⟩
theorem own_at {A : List Addr} {F H : Hp} {σ : St} {r : Env} {w : Om} {i : Nat} {ds : List D} (rs : RelS G A F H σ r w) (hr : r[i]? = some (some (.list ds))) (hM : G.M.contains i = true) : ∃ p vs, σ[i]? = some (some (.ref p)) ∧ H p = some (.lst vs) ∧ F p = none ∧ RpAll F vs ds := by
  obtain ⟨v, e1, p, vs, ds', e2, e3, hp, fp, rp⟩ := rs.rel.own i _ hr (by unfold ownd; rw [hM]; rfl)
  cases e3; subst e2
  exact ⟨p, vs, e1, hp, fp, rp⟩
section
variable {i : Nat} {x : Str} {p2 apos : Pos} (hN : X.N[i]? = some x) (hv : Vis X.env.scope x) (hd : (x == ("__debug__" : Str)) = false) (hcd : (x == ("__classdict__" : Str)) = false) (hM : G.M.contains i = true)
include hN hv hd hcd hM
theorem psd_append (he : PE X e (tD G de)) (hst : starEach [e] X.env = (false, eval e X.env) :: starEach [] X.env) {cpos : Pos} (hline : (apos.endLine == cpos.line) = true) (hs : swapsWith (.Call (.Attribute (.Name x p2) "append" apos) [e] [] cpos) none pos.line X.env = pure false)
    (hfew : ((backTo cpos (starEach [e] X.env)).all (fun x => !x.1) && (backToKw cpos (keywordEach [] X.env)).all (fun x => x.1.isSome) && decide ([e].length + ([] : List Keyword).length + (if ([] : List Keyword).isEmpty then 0 else 1) < 30)) = true) :
    PS X (.Expr (.Call (.Attribute (.Name x p2) "append" apos) [e] [] cpos) pos) (tS G (sAppend i de)) :=
  psI (ps_expr (pe_bm PySem.F.plainAttrs_list PySem.F.slot_list_append PySem.F.type_list_append mt_append (pe_var hN hv hd hcd) (pa_cons he pa_nil hst) rfl hfew hline hst rfl) hs) fun Dd σ H ⟨A, F, r, w, x, w', rs, e, post⟩ => by
    unfold sAppend at e
    split at e
    · rename_i ds hr
      obtain ⟨p, vs, hσ, hp, fp, rp⟩ := own_at rs hr hM
      refine ⟨.ref p, hσ, .inl ⟨rfl, _, .inl (.inl hp)⟩, ?_⟩
      cases h1 : de G.c r w with
      | none => rw [h1] at e; cases e
      | some pr =>
        obtain ⟨x1, w1⟩ := pr
        rw [h1] at e
        refine tD_of rs h1 (fun d hd v A1 F1 H1 s1 rs1 rt => ?_) (fun y hy cls dd A' F' H' rs' xr => ?_)
        · subst hd
          simp only at e
          split at e
          · rename_i hz; cases e
            simp only [Bool.and_eq_true, decide_eq_true_eq] at hz
            have hp1 : H1 p = some (.lst vs) := s1.hh _ _ hp rfl
            have fp1 : F1 p = none := by rw [s1.old _ _ hp]; exact fp
            refine ⟨p, vs, v, rfl, rfl, hp1, by rw [rp.length]; exact zlt hz.2, ?_⟩
            exact post σ A1 F1 _ (rs1.write hr hM hσ hp1 fp1 ((rp.mono s1.ff).append (.cons (rt.plain hz.1) .nil))) s1.ff
          · cases e
        · subst hy; cases e
          exact post cls dd σ A' F' H' rs' xr
    · cases e
theorem psd_appendMv {j : Nat} {y : Str} {p3 : Pos} (hNj : X.N[j]? = some y) (hvj : Vis X.env.scope y) (hdj : (y == ("__debug__" : Str)) = false) (hcdj : (y == ("__classdict__" : Str)) = false) (hMj : G.M.contains j = true) {cpos : Pos} (hline : (apos.endLine == cpos.line) = true) :
    PS X (.Expr (.Call (.Attribute (.Name x p2) "append" apos) [.Name y p3] [] cpos) pos) (tS G (sAppendMv i j)) :=
  psI (ps_expr (pe_bm PySem.F.plainAttrs_list PySem.F.slot_list_append PySem.F.type_list_append mt_append (pe_var hN hv hd hcd) (pa_cons (pe_var hNj hvj hdj hcdj) pa_nil rfl) rfl rfl hline rfl rfl) rfl) fun Dd σ H ⟨A, F, r, w, x, w', rs, e, post⟩ => by
    unfold sAppendMv at e
    split at e
    · rename_i ds d hr hrj
      split at e
      · rename_i hz; cases e
        simp only [Bool.and_eq_true, decide_eq_true_eq] at hz
        obtain ⟨⟨hl, hlen⟩, hij⟩ := hz
        obtain ⟨p, vs, hσ, hp, fp, rp⟩ := own_at rs hr hM
        cases d <;> first | (cases hl; done) | skip
        rename_i es
        obtain ⟨q, us, hσj, hq, fq, rq⟩ := own_at rs hrj hMj
        have hpq : p ≠ q := fun z => by
          subst z
          exact rs.rel.dis i j _ _ p hij hr hrj (by unfold ownd; rw [hM]; rfl) (by unfold ownd; rw [hMj]; rfl) hσ hσj
        refine ⟨.ref p, hσ, .inl ⟨rfl, _, .inl (.inl hp)⟩, .ref q, hσj, p, vs, .ref q, rfl, rfl, hp, by rw [rp.length]; exact zlt hlen, ?_⟩
        -- the moved list stands for good
        have n0 : G.H0 q = none := rs.new j _ q hrj (by unfold ownd; rw [hMj]; rfl) hσj
        have sf : Same F (upd F q (.lst us)) := same_new fq
        have rs1 : RelS G A (upd F q (.lst us)) H σ (r.set j none) w := by
          have rf := rs.forget j
          have ent : Step G.A0 G.F0 G.H0 A (upd F q (.lst us)) H := rs.ent.freeze n0 hq fq
          have old : ∀ k e, (r.set j none)[k]? = some (some e) → k ≠ j ∧ r[k]? = some (some e) := fun k e h => by
            by_cases hk : j = k
            · subst hk
              by_cases hl : j < r.length
              · rw [List.getElem?_set_self hl] at h; cases h
              · rw [List.getElem?_eq_none (by rw [List.length_set]; omega)] at h; cases h
            · rw [List.getElem?_set_ne hk] at h; exact ⟨Ne.symm hk, h⟩
          refine ⟨⟨ent.fh, rs.rel.om.freeze hq fq, rf.rel.len, fun k e h o => ?_, fun k e h o => ?_, rf.rel.dis⟩, ent, rf.new⟩
          · obtain ⟨v, e1, e2⟩ := rf.rel.fro k e h o
            refine ⟨v, e1, ?_⟩
            rcases e2 with e2 | ⟨i, a, z1, z2, z3⟩ | ⟨a, ns, z1, z2, z3⟩ | ⟨a, ns, z1, z2, o, z3, z4⟩
            · exact .inl (e2.mono sf)
            · exact .inr (.inl ⟨i, a, z1, z2, z3⟩)
            · exact .inr (.inr (.inl ⟨a, ns, z1, z2, sql_mono sf z3⟩))
            · exact .inr (.inr (.inr ⟨a, ns, z1, z2, o, sf _ _ z3, z4⟩))
          · obtain ⟨v, e1, t, ts, es', e2, e3, ht, ft, rt⟩ := rf.rel.own k e h o
            obtain ⟨hk, hr'⟩ := old k e h
            subst e2
            have : t ≠ q := fun z => by
              subst z
              exact rs.rel.dis k j e _ t hk hr' hrj o (by unfold ownd; rw [hMj]; rfl) e1 hσj
            exact ⟨_, e1, t, ts, es', rfl, e3, ht, by rw [upd_ne this]; exact ft, rt.mono sf⟩
        have hr1 : (r.set j none)[i]? = some (some (.list ds)) := by rw [List.getElem?_set_ne (Ne.symm hij)]; exact hr
        have rs2 := rs1.write (vs' := vs ++ [.ref q]) (ds' := ds ++ [.list es]) hr1 hM hσ hp (by rw [upd_ne hpq]; exact fp) ((rp.mono sf).append (.cons (.lst upd_same (rq.mono sf)) .nil))
        rw [List.set_comm _ _ (Ne.symm hij)] at rs2
        exact post σ A _ _ rs2 sf
      · cases e
    · cases e
theorem psd_extend (he : PE X e (tO G de)) (hst : starEach [e] X.env = (false, eval e X.env) :: starEach [] X.env) {cpos : Pos} (hline : (apos.endLine == cpos.line) = true) (hs : swapsWith (.Call (.Attribute (.Name x p2) "extend" apos) [e] [] cpos) none pos.line X.env = pure false)
    (hfew : ((backTo cpos (starEach [e] X.env)).all (fun x => !x.1) && (backToKw cpos (keywordEach [] X.env)).all (fun x => x.1.isSome) && decide ([e].length + ([] : List Keyword).length + (if ([] : List Keyword).isEmpty then 0 else 1) < 30)) = true) :
    PS X (.Expr (.Call (.Attribute (.Name x p2) "extend" apos) [e] [] cpos) pos) (tS G (sExtend i de)) :=
  psI (ps_expr (pe_bm PySem.F.plainAttrs_list PySem.F.slot_list_extend PySem.F.type_list_extend mt_extend (pe_var hN hv hd hcd) (pa_cons he pa_nil hst) rfl hfew hline hst rfl) hs) fun Dd σ H ⟨A, F, r, w, x, w', rs, e, post⟩ => by
    unfold sExtend at e
    split at e
    · rename_i ds hr
      obtain ⟨p, vs, hσ, hp, fp, rp⟩ := own_at rs hr hM
      refine ⟨.ref p, hσ, .inl ⟨rfl, _, .inl (.inl hp)⟩, ?_⟩
      cases h1 : de G.c r w with
      | none => rw [h1] at e; cases e
      | some pr =>
        obtain ⟨x1, w1⟩ := pr
        rw [h1] at e
        refine tO_of rs h1 (fun d hd v A1 F1 H1 s1 rs1 ro => ?_) (fun y hy cls dd A' F' H' rs' xr => ?_)
        · subst hd
          cases d <;> first | (cases e; done) | skip
          simp only at e
          split at e
          · rename_i zs hz; cases e
            obtain ⟨q, us, rfl, hq, rq⟩ := ro.lst rs1.rel.fh
            have hp1 : H1 p = some (.lst vs) := s1.hh _ _ hp rfl
            have fp1 : F1 p = none := by rw [s1.old _ _ hp]; exact fp
            refine ⟨p, q, vs, us, rfl, rfl, hp1, hq, by rw [rp.length, rq.length]; exact zl hz, ?_⟩
            exact post σ A1 F1 _ (rs1.write hr hM hσ hp1 fp1 ((rp.mono s1.ff).append rq)) s1.ff
          · cases e
        · subst hy; cases e
          exact post cls dd σ A' F' H' rs' xr
    · cases e
end
theorem psd_setIx {i : Nat} {x : Str} {p2 p3 : Pos} {k : Expr} {dk : Ex} (hN : X.N[i]? = some x) (hv : Vis X.env.scope x) (hd : (x == ("__debug__" : Str)) = false) (hcd : (x == ("__classdict__" : Str)) = false) (hM : G.M.contains i = true) (he : PE X e (tD G de)) (hk : PE X k (tO G dk))
    (ha : ∀ v, assign (.Subscript (.Name x p2) k p3) X.env v = (do
      let ov ← holding [v] (eval (.Name x p2) X.env)
      let iv ← holding [v, ov] (eval k X.env)
      standAt p3
      holding [v, ov, iv] (setItem ov iv v)
      release [v, ov, iv] []))
    (hs : swapsWithSole [.Subscript (.Name x p2) k p3] e pos.line X.env = pure false) (hw : swappedStores [.Subscript (.Name x p2) k p3] e X.env = pure none) (h1 : (assignEach [.Subscript (.Name x p2) k p3] X.env).map (·.2) = [assign (.Subscript (.Name x p2) k p3) X.env]) :
    PS X (.Assign [.Subscript (.Name x p2) k p3] e pos) (tS G (sSetIx i dk de)) :=
  psI (ps_asg he (pg_sub (pe_var hN hv hd hcd) hk set_list ha) hs hw h1) fun Dd σ H ⟨A, F, r, w, x, w', rs, e, post⟩ => by
    unfold sSetIx at e
    cases h1 : de G.c r w with
    | none => rw [h1] at e; cases e
    | some pr =>
      obtain ⟨x1, w1⟩ := pr
      rw [h1] at e
      refine tD_of rs h1 (fun d hd v A1 F1 H1 s1 rs1 rt => ?_) (fun y hy cls dd A' F' H' rs' xr => ?_)
      · subst hd
        simp only at e
        split at e
        · rename_i ds hr
          obtain ⟨p, vs, hσ, hp, fp, rp⟩ := own_at rs1 hr hM
          refine ⟨.ref p, hσ, ?_⟩
          cases h2 : dk G.c r w1 with
          | none => rw [h2] at e; cases e
          | some pr =>
            obtain ⟨x2, w2⟩ := pr
            rw [h2] at e
            refine tO_of rs1 h2 (fun d2 hd2 v2 A2 F2 H2 s2 rs2 ro => ?_) (fun y hy cls dd A' F' H' rs' xr => ?_)
            · subst hd2
              cases d2 <;> first | (cases e; done) | skip
              rename_i n
              simp only at e
              split at e
              · rename_i hpl
                rw [Option.map_eq_some_iff] at e
                obtain ⟨j, hj, e⟩ := e
                cases e
                have hp2 : H2 p = some (.lst vs) := s2.hh _ _ hp rfl
                have fp2 : F2 p = none := by rw [s2.old _ _ hp]; exact fp
                refine ⟨p, vs, n, j, rfl, ro.int, hp2, by rw [rp.length]; exact hj, ?_⟩
                exact post σ A2 F2 _ (rs2.write hr hM hσ hp2 fp2 ((rp.mono s2.ff).set ((rt.step s2).plain hpl) j)) (s1.ff.trans s2.ff)
              · cases e
            · subst hy; cases e
              exact post cls dd σ A' F' H' rs' xr
        · cases e
      · subst hy; cases e
        exact post cls dd σ A' F' H' rs' xr
end
end Rx

set_option Elab.async false
set_option linter.all false
set_option maxRecDepth 100000
set_option maxHeartbeats 1000000
set_option autoImplicit false
namespace Rx
open PySem L2
section
variable {X : Cx} {G : Cg} {a b c e tg iter elt : Expr} {es : List Expr} {st : Stmt} {rest sa sb body : List Stmt} {da db dc de : Ex} {des src : Exs} {dsa dsb dbd : Sx} {pos : Pos}
theorem tDs_of {A : List Addr} {F H : Hp} {σ : St} {r : Env} {w w1 : Om} {x : RL} {Q : List V → Hp → Prop} (rs : RelS G A F H σ r w) (he : des G.c r w = some (x, w1))
    (hv : ∀ d, x = .vals d → ∀ v A' F' H', Step A F H A' F' H' → RelS G A' F' H' σ r w1 → RtAll G.K A' F' v d → Q v H')
    (hx : ∀ y, x = .exc y → ∀ cls dd A' F' H', RelS G A' F' H' σ r w1 → XRep G.ec F' H' cls dd y → G.W cls dd σ H') : tDs G des σ H Q := by
  refine ⟨A, F, r, w, x, w1, rs.rel, he, ?_⟩
  cases x with
  | vals d => exact fun v A' F' H' s o ro => hv d rfl v A' F' H' s (rs.step s o) ro
  | exc y => exact fun cls dd A' F' H' s o q => hx y rfl cls dd A' F' H' (rs.step s o) q
theorem tI_of {frz : Bool} {A : List Addr} {F H : Hp} {σ : St} {r : Env} {w w1 : Om} {x : RL} {R : It → Hp → Prop} (rs : RelS G A F H σ r w) (he : src G.c r w = some (x, w1))
    (hv : ∀ d, x = .vals d → ∀ J A' F' H', Step A F H A' F' H' → RelS G A' F' H' σ r w1 → (if frz = true then ItF J F' d else ItS J A' F' H' d) → R J H')
    (hx : ∀ y, x = .exc y → ∀ cls dd A' F' H', RelS G A' F' H' σ r w1 → XRep G.ec F' H' cls dd y → G.W cls dd σ H') : tI G frz src σ H R := by
  refine ⟨A, F, r, w, x, w1, rs.rel, he, ?_⟩
  cases x with
  | vals d => exact fun v A' F' H' s o ro => hv d rfl v A' F' H' s (rs.step s o) ro
  | exc y => exact fun cls dd A' F' H' s o q => hx y rfl cls dd A' F' H' (rs.step s o) q
/-! ### a, b = x, y -/
theorem psd_par {i j : Nat} {x y : Str} {px py pt : Pos} {kt k2 : Nat} {pt2 : Pos} (hc : X.calm = true) (hN : X.N.Nodup) (hi : X.N[i]? = some x) (hj : X.N[j]? = some y) (hij : i ≠ j)
    (hx : X.env.scope.names.lookup x = some .local) (hy : X.env.scope.names.lookup y = some .local) (ha : PA X [a, b] (tDs G des))
    (hw : swappedStores [.Tuple [.Name x px, .Name y py] kt pt] (.Tuple [a, b] k2 pt2) X.env = pure (some [x, y])) (hMi : G.M.contains i = false) (hMj : G.M.contains j = false) :
    PS X (.Assign [.Tuple [.Name x px, .Name y py] kt pt] (.Tuple [a, b] k2 pt2) pos) (tS G (sPar [i, j] des)) :=
  psI (ps_par hc hN hi hj hij hx hy ha hw rfl) fun Dd σ H ⟨A, F, r, w, x, w', rs, e, post⟩ => by
    unfold sPar at e
    cases h1 : des G.c r w with
    | none => rw [h1] at e; cases e
    | some pr =>
      obtain ⟨x1, w1⟩ := pr
      rw [h1] at e
      refine tDs_of rs h1 (fun ds hd vs A1 F1 H1 s1 rs1 rt => ?_) (fun y hy cls dd A' F' H' rs' xr => ?_)
      · subst hd
        simp only at e
        rw [Option.map_eq_some_iff] at e
        obtain ⟨r1, hr, e⟩ := e
        cases e
        cases rt with
        | nil => simp [setAll] at hr
        | cons t1 t =>
          cases t with
          | nil => simp [setAll] at hr
          | cons t2 t =>
            cases t with
            | nil =>
              simp only [setAll] at hr
              cases hr
              refine ⟨_, _, rfl, post _ A1 F1 H1 ((rs1.set t1 (by unfold ownd; rw [hMi]; rfl)).set t2 (by unfold ownd; rw [hMj]; rfl)) s1.ff⟩
            | cons t3 t => simp [setAll] at hr
      · subst hy; cases e
        exact post cls dd σ A' F' H' rs' xr
theorem psd_par3 {i j l : Nat} {x y z : Str} {px py pz pt : Pos} {kt k2 : Nat} {pt2 : Pos} (hc : X.calm = true) (hN : X.N.Nodup) (hi : X.N[i]? = some x) (hj : X.N[j]? = some y) (hl : X.N[l]? = some z) (hij : i ≠ j) (hil : i ≠ l) (hjl : j ≠ l)
    (hx : X.env.scope.names.lookup x = some .local) (hy : X.env.scope.names.lookup y = some .local) (hz : X.env.scope.names.lookup z = some .local) (ha : PA X [a, b, c] (tDs G des))
    (hw : swappedStores [.Tuple [.Name x px, .Name y py, .Name z pz] kt pt] (.Tuple [a, b, c] k2 pt2) X.env = pure (some [x, y, z])) (hMi : G.M.contains i = false) (hMj : G.M.contains j = false) (hMl : G.M.contains l = false) :
    PS X (.Assign [.Tuple [.Name x px, .Name y py, .Name z pz] kt pt] (.Tuple [a, b, c] k2 pt2) pos) (tS G (sPar [i, j, l] des)) :=
  psI (ps_par3 hc hN hi hj hl hij hil hjl hx hy hz ha hw rfl) fun Dd σ H ⟨A, F, r, w, x, w', rs, e, post⟩ => by
    unfold sPar at e
    cases h1 : des G.c r w with
    | none => rw [h1] at e; cases e
    | some pr =>
      obtain ⟨x1, w1⟩ := pr
      rw [h1] at e
      refine tDs_of rs h1 (fun ds hd vs A1 F1 H1 s1 rs1 rt => ?_) (fun y hy cls dd A' F' H' rs' xr => ?_)
      · subst hd
        simp only at e
        rw [Option.map_eq_some_iff] at e
        obtain ⟨r1, hr, e⟩ := e
        cases e
        cases rt with
        | nil => simp [setAll] at hr
        | cons t1 t =>
          cases t with
          | nil => simp [setAll] at hr
          | cons t2 t =>
            cases t with
            | nil => simp [setAll] at hr
            | cons t3 t =>
              cases t with
              | nil =>
                simp only [setAll] at hr
                cases hr
                refine ⟨_, _, _, rfl, post _ A1 F1 H1 (((rs1.set t1 (by unfold ownd; rw [hMi]; rfl)).set t2 (by unfold ownd; rw [hMj]; rfl)).set t3 (by unfold ownd; rw [hMl]; rfl)) s1.ff⟩
              | cons t3 t => simp [setAll] at hr
      · subst hy; cases e
        exact post cls dd σ A' F' H' rs' xr
/-! ### (a, b) = e -/
theorem RelS.up {A : List Addr} {F H : Hp} {σ σ' : St} {r r' : Env} {w : Om} {is : List Nat} (rs : RelS G A F H σ r w) (u : Up F is σ r σ' r') (hM : ∀ i ∈ is, G.M.contains i = false) : RelS G A F H σ' r' w := by
  refine ⟨u.rel rs.rel hM, rs.ent, fun i d p h o hp => ?_⟩
  rcases u.at_ i with ⟨h1, h2⟩ | ⟨hi, _⟩
  · rw [h1] at hp; rw [h2] at h
    exact rs.new i d p h o hp
  · unfold ownd at o; rw [hM i hi] at o; cases o
theorem psd_asgT {ts : List Tg} (he : PE X e (tD G de)) (hg : PG X tg (tG (.tp ts))) (hM : ∀ i ∈ slotsT (.tp ts), G.M.contains i = false) (hs : swapsWithSole [tg] e pos.line X.env = pure false) (hw : swappedStores [tg] e X.env = pure none) (h1 : (assignEach [tg] X.env).map (·.2) = [assign tg X.env]) :
    PS X (.Assign [tg] e pos) (tS G (sAsgT (.tp ts) de)) :=
  psI (ps_asg he hg hs hw h1) fun Dd σ H ⟨A, F, r, w, x, w', rs, e, post⟩ => by
    unfold sAsgT at e
    cases h1 : de G.c r w with
    | none => rw [h1] at e; cases e
    | some pr =>
      obtain ⟨x1, w1⟩ := pr
      rw [h1] at e
      refine tD_of rs h1 (fun d hd v A1 F1 H1 s1 rs1 rt => ?_) (fun y hy cls dd A' F' H' rs' xr => ?_)
      · subst hd
        simp only at e
        rw [Option.map_eq_some_iff] at e
        obtain ⟨r1, hr, e⟩ := e
        cases e
        have hp : plain d = true := by
          cases d <;> first | rfl | simp [bindT] at hr
        exact ⟨F1, d, r, r1, rt.plain hp, s1.fh, rs1.rel.len, hr, fun σ' u => post σ' A1 F1 H1 (rs1.up u hM) s1.ff⟩
      · subst hy; cases e
        exact post cls dd σ A' F' H' rs' xr
/-! ### x *= e, x //= e -/
theorem psd_aug {op : Operator} {p : Pr} {i : Nat} {x : Str} {p2 : Pos} {f : Int → Int → Int} {C : Int → Int → Prop} (hp : ∀ i j d, prim p [.int i, .int j] = some d → C i j ∧ d = .int (f i j)) (ho : OpR X (inplaceOp op) (rI C fun i j => .int (f i j)))
    (hN : X.N.Nodup) (hi : X.N[i]? = some x) (hx : Loc X.env.scope x) (he : PE X e (tO G de)) (hf : X.fn x = true ∨ X.env.scope.names.lookup x = some .local) :
    PS X (.AugAssign (.Name x p2) op e pos) (tS G (sAug i p de)) :=
  psI (ps_aug hN hi hx he ho hf) fun Dd σ H ⟨A, F, r, w, x, w', rs, e, post⟩ => by
    unfold sAug at e
    split at e
    · rename_i a hr
      obtain ⟨v, hσ, ro⟩ := rs.rel.ro hr
      refine ⟨v, hσ, ?_⟩
      cases h1 : de G.c r w with
      | none => rw [h1] at e; cases e
      | some pr =>
        obtain ⟨x1, w1⟩ := pr
        rw [h1] at e
        refine tO_of rs h1 (fun d hd u A1 F1 H1 s1 rs1 ru => ?_) (fun y hy cls dd A' F' H' rs' xr => ?_)
        · subst hd
          cases d <;> first | (cases e; done) | skip
          simp only at e
          rw [Option.map_eq_some_iff] at e
          obtain ⟨d, hd, e⟩ := e
          cases e
          obtain ⟨hC, rfl⟩ := hp _ _ _ hd
          refine ⟨_, _, ro.int, ru.int, hC, post _ A1 F1 H1 (rs1.set (.inl (.int _)) ?_) s1.ff⟩
          unfold ownd isLst; rw [Bool.and_false]
        · subst hy; cases e
          exact post cls dd σ A' F' H' rs' xr
    · cases e
theorem psd_imul {i : Nat} {x : Str} {p2 : Pos} (hN : X.N.Nodup) (hi : X.N[i]? = some x) (hx : Loc X.env.scope x) (he : PE X e (tO G de)) (hf : X.fn x = true ∨ X.env.scope.names.lookup x = some .local) : PS X (.AugAssign (.Name x p2) .Mult e pos) (tS G (sAug i .mul de)) :=
  psd_aug (f := fun i j => i * j) (C := CMul) (fun i j d h => by
    replace h : (if (small i || small j) = true then some (PyData.int (i * j)) else none) = some d := h
    split at h
    · rename_i hz; cases h
      refine ⟨?_, rfl⟩
      rw [Bool.or_eq_true] at hz
      unfold small at hz
      simp only [Bool.and_eq_true, decide_eq_true_eq] at hz
      exact hz
    · cases h) iop_mul hN hi hx he hf
theorem psd_ifdiv {i : Nat} {x : Str} {p2 : Pos} (hN : X.N.Nodup) (hi : X.N[i]? = some x) (hx : Loc X.env.scope x) (he : PE X e (tO G de)) (hf : X.fn x = true ∨ X.env.scope.names.lookup x = some .local) : PS X (.AugAssign (.Name x p2) .FloorDiv e pos) (tS G (sAug i .fdiv de)) :=
  psd_aug (f := fun i j => i / j) (C := CDiv) (fun i j d h => by
    replace h : (if 0 < j ∧ j < 1073741824 then some (PyData.int (i / j)) else none) = some d := h
    split at h
    · rename_i hz; cases h
      exact ⟨hz, rfl⟩
    · cases h) iop_fdiv hN hi hx he hf
/-! ### for -/
theorem psd_for {t : Tg} (hp : PassesOwn (model X.prog X.w) X.A X.env X.xe) (hc : X.calm = true) (hi : PI X tg iter (tI G true src)) (hg : PG X tg (tG t)) (hM : ∀ i ∈ slotsT t, G.M.contains i = false) (hb : PSs X body (tS G dbd)) (hs : ∀ x, foldedSetIterable iter X.env x = pure x) :
    PS X (.For tg iter body [] pos) (tS G (sFor src t dbd)) :=
  psI (ps_for hp hc hi hg hb hs) fun Dd σ H ⟨A, F, r, w, x, w', rs, e, post⟩ => by
    unfold sFor at e
    cases h1 : src G.c r w with
    | none => rw [h1] at e; cases e
    | some pr =>
      obtain ⟨x1, w1⟩ := pr
      rw [h1] at e
      refine tI_of rs h1 (fun xs hd J A1 F1 H1 s1 rs1 hit => ?_) (fun y hy cls dd A' F' H' rs' xr => ?_)
      · subst hd
        simp only at e
        rw [if_pos rfl] at hit
        refine ⟨fun i m σ H => m = xs.length - i ∧ i ≤ xs.length ∧ ∃ A F r w, RelS G A F H σ r w ∧ Same F1 F ∧ forGo G.c t dbd (xs.drop i) r w = some (x, w'), ⟨xs.length, by simp, Nat.zero_le _, A1, F1, r, w1, rs1, .refl _, by rw [List.drop_zero]; exact e⟩, ?_⟩
        rintro i m σ H ⟨rfl, hi, A, F, r, w, rs, sf, gc⟩
        by_cases hlt : i < xs.length
        · have hdrop : xs.drop i = xs[i] :: xs.drop (i + 1) := List.drop_eq_getElem_cons hlt
          rw [hdrop] at gc
          unfold forGo at gc
          cases hbd : bindT t xs[i] r with
          | none => rw [hbd] at gc; cases gc
          | some r1 =>
            rw [hbd] at gc
            simp only at gc
            refine .inr ⟨hit.go F H i sf rs.rel.fh hlt, fun σ' H' => i + 1 ≤ xs.length ∧ ∃ A F r w, RelS G A F H' σ' r w ∧ Same F1 F ∧ forGo G.c t dbd (xs.drop (i + 1)) r w = some (x, w'), fun σ' H' hn => ⟨xs.length - (i + 1), by omega, rfl, hn⟩, fun v H3 hy => ?_⟩
            obtain ⟨F3, d, s3, k3, ed, rv⟩ := hit.yld A F H i v H3 sf rs.rel.fh hlt hy
            have : d = xs[i] := by rw [List.getElem?_eq_getElem hlt] at ed; exact (Option.some.inj ed).symm
            subst this
            have rs3 := rs.step s3 (rs.rel.om.new s3 k3)
            refine ⟨F3, xs[i], r, r1, rv, s3.fh, rs3.rel.len, hbd, fun σ2 u2 => ?_⟩
            have rs4 := rs3.up u2 hM
            cases hbody : dbd G.c r1 w with
            | none => rw [hbody] at gc; cases gc
            | some pr =>
              obtain ⟨x2, w2⟩ := pr
              rw [hbody] at gc
              refine ⟨A, F3, r1, w, x2, w2, rs4, hbody, ?_⟩
              cases x2 with
              | next r2 => exact fun σ5 A5 F5 H5 rs5 k5 => ⟨by omega, A5, F5, r2, w2, rs5, (sf.trans s3.ff).trans k5, gc⟩
              | ret d => cases gc; exact post
              | exc y r2 => cases gc; exact post
        · have hi' : i = xs.length := by omega
          subst hi'
          rw [List.drop_length] at gc
          unfold forGo at gc
          cases gc
          exact .inl ⟨hit.stop F H _ sf rs.rel.fh (Nat.le_refl _), post σ A F H rs (s1.ff.trans sf)⟩
      · subst hy; cases e
        exact post cls dd σ A' F' H' rs' xr
/-! ### while -/
theorem psd_while {n : Nat} (hp : PassesOwn (model X.prog X.w) X.A X.env X.xe) (hc : PT X c (tT G dc)) (hb : PSs X body (tS G dbd)) : PS X (.While c body [] pos) (tS G (sWhile n dc dbd)) :=
  psI (ps_while hp hc hb) fun Dd σ H ⟨A, F, r, w, x, w', rs, e, post⟩ => by
    unfold sWhile at e
    refine ⟨fun m σ H => ∃ A F1 r w, RelS G A F1 H σ r w ∧ Same F F1 ∧ whileGo G.c dc dbd m r w = some (x, w'), ⟨n, A, F, r, w, rs, .refl _, e⟩, ?_⟩
    rintro m σ H ⟨A, F1, r, w, rs, sf, gc⟩
    cases m with
    | zero => unfold whileGo at gc; cases gc
    | succ m =>
      unfold whileGo at gc
      cases h1 : dc G.c r w with
      | none => rw [h1] at gc; cases gc
      | some pr =>
        obtain ⟨x1, w1⟩ := pr
        rw [h1] at gc
        refine tT_of rs h1 (fun d hd => ?_) (fun y hy cls dd A' F' H' rs' xr => ?_)
        · subst hd
          simp only at gc
          cases ht : truth d with
          | none => rw [ht] at gc; cases gc
          | some k =>
            rw [ht] at gc
            refine ⟨k, rfl, fun A2 F2 H2 s2 rs2 => ?_⟩
            cases k with
            | false =>
              cases gc
              exact iteF (post σ A2 F2 H2 rs2 (sf.trans s2.ff))
            | true =>
              refine iteT ⟨fun σ' H' => ∃ A F1 r w, RelS G A F1 H' σ' r w ∧ Same F F1 ∧ whileGo G.c dc dbd m r w = some (x, w'), fun σ' H' hn => ⟨m, Nat.lt_succ_self m, hn⟩, ?_⟩
              simp only at gc
              cases hbody : dbd G.c r w1 with
              | none => rw [hbody] at gc; cases gc
              | some pr =>
                obtain ⟨x2, w2⟩ := pr
                rw [hbody] at gc
                refine ⟨A2, F2, r, w1, x2, w2, rs2, hbody, ?_⟩
                cases x2 with
                | next r2 => exact fun σ5 A5 F5 H5 rs5 k5 => ⟨A5, F5, r2, w2, rs5, (sf.trans s2.ff).trans k5, gc⟩
                | ret d => cases gc; exact post
                | exc y r2 => cases gc; exact post
        · subst hy; cases gc
          exact post cls dd σ A' F' H' rs' xr
/-! ### comprehensions -/
theorem pts_cond {Xb : Cx} {Gb : Cg} {ifs : List Expr} {cond : Option Ex} (h : (ifs = [] ∧ cond = none) ∨ ∃ c t, ifs = [c] ∧ cond = some t ∧ PT Xb c (tT Gb t)) : PTs Xb ifs (tCond Gb cond) := by
  rcases h with ⟨rfl, rfl⟩ | ⟨c, t, rfl, rfl, h⟩
  · exact pts_nil
  · exact pts_one h
section
variable {ifs : List Expr} {cond : Option Ex} {scope : Scope} {t : Tg} {own : List (Str × Nat)} (hc : X.calm = true) (hN : X.N.Nodup) (hi : PI X tg iter (tI G false src)) (ok : BlkOk X.N X.env.scope scope own)
    (hg : ∀ (s : Shared) (H : Hp) (C : Addr) (cl : List (Str × Addr)) (fp : List Addr), PG (X.blk s H scope (compEnvC scope cl C X.env) fp) tg (tG t))
    (ht : ∀ (s : Shared) (H : Hp) (C : Addr) (cl : List (Str × Addr)) (fp : List Addr), PTs (X.blk s H scope (compEnvC scope cl C X.env) fp) ifs (tCond (G.blk (own.map (·.2))) cond))
    (he : ∀ (s : Shared) (H : Hp) (C : Addr) (cl : List (Str × Addr)) (fp : List Addr), PE (X.blk s H scope (compEnvC scope cl C X.env) fp) elt (tD (G.blk (own.map (·.2))) de))
    (hs : ∀ x, foldedSetIterable iter X.env x = pure x) (hsl : ∀ i ∈ slotsT t, i ∈ own.map (·.2))
include hc hN hi ok hg ht he hs hsl
theorem pf_comp : PE X (.ListComp elt [⟨tg, iter, ifs, 0⟩] scope pos) (tF G (dComp src t cond de (own.map (·.2)))) :=
  peI (pe_lc hc hN hi ok hg ht he hs) fun σ H Q h => lc_read hsl h
theorem pd_comp : PE X (.ListComp elt [⟨tg, iter, ifs, 0⟩] scope pos) (tD G (dComp src t cond de (own.map (·.2)))) :=
  peI (pf_comp hc hN hi ok hg ht he hs hsl) fun σ H Q h => tD_tF h
theorem psd_setLc {i : Nat} {y : Str} {py spos : Pos} (hy : X.N[i]? = some y) (hyl : X.env.scope.names.lookup y = some .local) (hsw : swapsWith (.ListComp elt [⟨tg, iter, ifs, 0⟩] scope pos) (some (.Name y py)) spos.line X.env = pure true) :
    PS X (.Assign [.Name y py] (.ListComp elt [⟨tg, iter, ifs, 0⟩] scope pos) spos) (tS G (sAsg i (dComp src t cond de (own.map (·.2))))) :=
  psI (ps_setLc hc hN hy hyl hsw hi ok hg ht he hs) fun Dd σ H h => by
    have hF : tF G (dComp src t cond de (own.map (·.2))) σ H fun v H1 => Dd.nx (σ.set i (some v)) H1 := by
      cases q : G.M.contains i with
      | true => exact asgF q h
      | false => exact tD_tF (asgD q h)
    exact lc_read hsl hF
end
/-! ### new lists -/
theorem pf_lst (h : PA X es (tDs G des)) : PE X (.List es pos) (tF G (dPrim .lst des)) :=
  peI (pe_lst h) fun σ H Q ⟨A, F, r, w, x, w', rel, e, post⟩ => by
    unfold dPrim at e
    cases hs : des G.c r w with
    | none => rw [hs] at e; cases e
    | some q =>
      obtain ⟨x1, w1⟩ := q
      rw [hs] at e
      cases x1 with
      | exc y => cases e; exact ⟨A, F, r, w, .exc y, _, rel, hs, post⟩
      | vals ds =>
        simp only at e
        rw [Option.map_eq_some_iff] at e
        obtain ⟨d, hd, e⟩ := e
        cases e
        replace hd : lstP ds = some d := hd
        unfold lstP at hd
        split at hd
        · rename_i hz; cases hd
          simp only [Bool.and_eq_true, decide_eq_true_eq] at hz
          refine ⟨A, F, r, w, .vals ds, _, rel, hs, fun vs A1 F1 H1 s1 o1 r1 => ?_⟩
          have rp := r1.plain hz.1
          refine ⟨by rw [rp.length]; exact zl hz.2, fun p hp => post (.ref p) A1 F1 _ (s1.trans (.newO s1.fh hp)) (o1.new (.newO s1.fh hp) (keep_new hp)) ⟨p, vs, ds, rfl, rfl, s1.fresh hp, upd_same, s1.fh.free hp, rp⟩⟩
        · cases hd
theorem pf_lstRng1 {p1' p2' p3' : Pos} (hc : X.calm = true) (hgr : Gl X "range") (hmr : X.mg "range" = none) (hg : Gl X "list") (hm : X.mg "list" = none) (ha : PE X a (tO G da)) (hst : starEach [a] X.env = (false, eval a X.env) :: starEach [] X.env) :
    PE X (.Call (.Name "list" p1') [.Call (.Name "range" p2') [a] [] p3'] [] pos) (tF G (dPrim .list (dCons (dPrim .rng1 (dCons da dNil)) dNil))) :=
  peI (pe_listRg hc hg hm (prg_1 hgr hmr ha hst)) fun σ H Q ⟨A, F, r, w, x, w', rel, e, post⟩ => by
    simp only [dPrim, dCons, dNil] at e
    cases hs : da G.c r w with
    | none => rw [hs] at e; cases e
    | some q =>
      obtain ⟨x1, w1⟩ := q
      rw [hs] at e
      cases x1 with
      | exc y => cases e; exact ⟨A, F, r, w, .exc y, _, rel, hs, post⟩
      | val d =>
        simp only at e
        cases h2 : prim .rng1 [d] with
        | none => rw [h2] at e; cases e
        | some d1 =>
          rw [h2] at e
          obtain ⟨j, rfl, ok, rfl⟩ := rng1_some (d := d) h2
          cases e
          refine ⟨A, F, r, w, .val (.int j), _, rel, hs, fun v A1 F1 H1 s1 o1 r1 => ⟨j, r1.int, ok, fun p hp => ?_⟩⟩
          exact post (.ref p) A1 F1 _ (s1.trans (.newO s1.fh hp)) (o1.new (.newO s1.fh hp) (keep_new hp)) ⟨p, _, _, rfl, rfl, s1.fresh hp, upd_same, s1.fh.free hp, rg_all F1 0 j⟩
end
end Rx

set_option Elab.async false
set_option linter.all false
set_option maxRecDepth 100000
set_option maxHeartbeats 1000000
set_option autoImplicit false
namespace Rx
open PySem L2
/-! ### calls of the program's own defs -/
/-- a def's promise: what c gives of the data -/
def spOf (K : PySem.W.Frag) (C : Addr) (ec : Nat → Option Value) (c : Cf) (f np : Nat) : Sp := fun vs H Q E => ∃ A F ds w x w', vs.length = np ∧ RtAll K A F vs ds ∧ Same F H ∧ Omg C A F H w ∧ c f ds w = some (x, w') ∧
  (match x with
   | R.val d => ∀ v A' F' H', Step A F H A' F' H' → Omg C A' F' H' w' → Rt K A' F' v d → Q v H'
   | R.exc y => ∀ cls dd A' F' H', Step A F H A' F' H' → Omg C A' F' H' w' → XRep ec F' H' cls dd y → E cls dd H')
section
variable {X : Cx} {G : Cg} {a b e : Expr} {es : List Expr} {da db de : Ex} {des : Exs} {pos : Pos}
theorem pd_call {k np fid : Nat} {f : Addr} {fd : FuncData} {ps : List Str} {x : Str} {p : Pos} (tk : Takes X G.W) (Fn : FnOk X.prog X.w X.K X.mg X.base (L2.CX X.prog X.w) k f fd ps (spOf G.K G.C G.ec G.c fid np)) (hr : Room k X.A) (hg : Gl X x) (hm : X.mg x = some (.ref f)) (hk : PySem.W.keepIn X.K (.ref f) = true) (hb : Binds X.K fd ps [])
    (ha : PA X (e :: es) (tDs G des)) (hnp : (e :: es).length = np) (hdb : (x == ("__debug__" : Str)) = false) (he : starEach (e :: es) X.env = (false, eval e X.env) :: starEach es X.env) (hpl : (backTo pos (starEach es X.env)).any (·.1) = false)
    (hlen : ∀ c r w ds w', des c r w = some (.vals ds, w') → ds.length = np) :
    PE X (.Call (.Name x p) (e :: es) [] pos) (tD G (dCall fid des)) :=
  peI (pe_callSD (dvs := []) (ds := []) (E := WE G.W) Fn hr hg hm hk hb .nil (fun σ => passAt tk σ) ha hdb he hpl) fun σ H Q ⟨A, F, r, w, x, w', rel, e, post⟩ => by
    unfold dCall at e
    cases h1 : des G.c r w with
    | none => rw [h1] at e; cases e
    | some pr =>
      obtain ⟨x1, w1⟩ := pr
      rw [h1] at e
      cases x1 with
      | exc y => cases e; exact ⟨A, F, r, w, .exc y, _, rel, h1, post⟩
      | vals ds =>
        simp only at e
        refine ⟨A, F, r, w, .vals ds, w1, rel, h1, fun vs A1 F1 H1 s1 o1 r1 => ?_⟩
        show spOf G.K G.C G.ec G.c fid np (vs ++ []) H1 Q (WE G.W σ)
        rw [List.append_nil]
        refine ⟨A1, F1, ds, w1, x, w', by rw [r1.length]; exact hlen _ _ _ _ _ h1, r1, s1.fh, o1, e, ?_⟩
        cases x with
        | val d => exact fun v A2 F2 H2 s2 o2 r2 => post v A2 F2 H2 (s1.trans s2) o2 r2
        | exc y => exact fun cls dd A2 F2 H2 s2 o2 q => post cls dd A2 F2 H2 (s1.trans s2) o2 q
/-- a def keeps its promise if its body does -/
theorem fn_ok {P : Program} {w : World} {K : PySem.W.Frag} {mg : Str → Option Value} {base : Heap} {x qual : Str} {st : Stmt} {f : Addr} {fd : FuncData} {N ps : List Str} {k np ns fid : Nat} {C : Addr} {ec : Nat → Option Value} {M : List Nat} {c c' : Cf} {body : Sx}
    (Fn : FunD K x qual (defArgs st) (defBody st) (defScope st) [] [] f fd) (S : FnScope N ps (defScope st)) (hnp : ps.length = np) (hns : N.length = ns) (hle : np ≤ ns)
    (hM : ∀ i, i < np → M.contains i = false)
    (hc' : ∀ ds w x w', c' fid ds w = some (x, w') → ds.length = np ∧ fin (body c (ds.map some ++ List.replicate (ns - np) none) w) = some (x, w'))
    (hbody : ∀ (cdv : Value) (A : Around) (outer : List PySem.Env) (s : Shared) (H : Hp) (E : XK) (A0 : List Addr) (F0 : Hp), Room k (A.deeper (PyProof.Rows.envOfC qual (defScope st) s.heap.objs.size f cdv)) →
      PSs (cxOf (L2.CX P w) P w K mg base N qual (defScope st) f cdv A outer s H E) (defBody st) (tS ⟨K, C, M, fun cls dd _ H' => E cls dd H', c, ec, A0, F0, H⟩ body)) :
    FnOk P w K mg base (L2.CX P w) (k + 1) f fd ps (spOf K C ec c' fid np) := by
  refine FunD.ok Fn S (fun vs H Q E h => ?_) (fun cdv A outer s H vs Q E hr h => ?_)
  · obtain ⟨_, _, _, _, _, _, hl, _⟩ := h
    rw [hl, hnp]
  · obtain ⟨A0, F0, ds, w0, x, w', hl, rt, sf, om, hrun, post⟩ := h
    obtain ⟨hlen, hfin⟩ := hc' ds w0 x w' hrun
    refine ⟨_, hbody cdv A outer s H E A0 F0 hr, ?_⟩
    cases hb : body c (ds.map some ++ List.replicate (ns - np) none) w0 with
    | none => rw [hb] at hfin; cases hfin
    | some pr =>
      obtain ⟨o, w1⟩ := pr
      rw [hb] at hfin
      -- the slots at the entry
      have hst : L2.start N vs = vs.map some ++ List.replicate (ns - np) none := by
        unfold L2.start; rw [hns, hl]
      have look : ∀ (i : Nat) (d : D), (ds.map some ++ List.replicate (ns - np) none)[i]? = some (some d) → ds[i]? = some d ∧ i < np := fun i d h => by
        by_cases hi : i < ds.length
        · rw [List.getElem?_append_left (by simpa using hi), List.getElem?_map] at h
          cases q : ds[i]? with
          | none => rw [q] at h; cases h
          | some d' => rw [q] at h; cases h; exact ⟨rfl, by omega⟩
        · rw [List.getElem?_append_right (by simpa using hi), List.getElem?_replicate] at h
          split at h <;> cases h
      have getv : ∀ {vs : List V} {ds : List D}, RtAll K A0 F0 vs ds → ∀ (i : Nat) (d : D), ds[i]? = some d → ∃ v, vs[i]? = some v ∧ Rt K A0 F0 v d := by
        intro vs ds h
        induction h with
        | nil => intro i d h; simp at h
        | cons a t ih =>
          intro i d h
          cases i with
          | zero => simp at h; subst h; exact ⟨_, rfl, a⟩
          | succ i => obtain ⟨v, e1, e2⟩ := ih i d (by simpa using h); exact ⟨v, by simpa using e1, e2⟩
      have noown : ∀ (i : Nat) (d : D), (ds.map some ++ List.replicate (ns - np) none)[i]? = some (some d) → ownd M i d = false := fun i d h => by
        unfold ownd; rw [hM i (look i d h).2]; rfl
      rw [hst]
      refine ⟨A0, F0, _, w0, o, w1, ⟨⟨sf, om, ?_, fun i d h q => ?_, fun i d h q => ?_, fun i j d e p hij h1 h2 o1 o2 h3 => ?_⟩, .refl sf, fun i d p h q => ?_⟩, hb, ?_⟩
      · simp [hl, hlen]
      · obtain ⟨e1, e2⟩ := look i d h
        obtain ⟨v, e3, e4⟩ := getv rt i d e1
        refine ⟨v, ?_, e4⟩
        have hi : i < vs.length := (List.getElem?_eq_some_iff.mp e3).1
        rw [List.getElem?_append_left (by simpa using hi), List.getElem?_map, e3]; rfl
      · rw [noown i d h] at q; cases q
      · rw [noown i d h1] at o1; cases o1
      · rw [noown i d h] at q; cases q
      · cases o with
        | next r =>
          cases hfin
          exact fun σ A' F' H' rs _ => post .non A' F' H' rs.ent rs.rel.om (.inl .non)
        | ret d =>
          cases hfin
          exact fun v A' F' H' s' o' rt' => post v A' F' H' s' o' rt'
        | exc y r =>
          cases hfin
          exact fun cls dd σ A' F' H' rs xr => post cls dd A' F' H' rs.ent rs.rel.om xr
/-! ### raise -/
/-- what is known of an exception class without a field -/
structure XC (X : Cx) (ec : Nat → Option Value) (k : Nat) (x : Str) (C : Addr) : Prop where
  at_ : ec k = some (.ref C)
  g : X.mg x = some (.ref C)
  kp : PySem.W.keepIn X.K (.ref C) = true
  ex : PySem.W.excIn X.K C [.type "ValueError", .type "Exception", .type "BaseException", .type "object"] "ValueError.__new__" = true
  rs : Raises X (.ref C)
theorem psd_raise {k : Nat} {x m : Str} {C : Addr} {j : Nat} {p p2 p3 : Pos} (hc : X.calm = true) (tk : Takes X G.W) (xc : XC X G.ec k x C) (hk : k ≠ 1) (hg : Gl X x) (hdb : (x == ("__debug__" : Str)) = false) :
    PS X (.Raise (some (.Call (.Name x p) [.Constant (.str m) j p2] [] p3)) none pos) (tS G (sRaise k)) :=
  psI (ps_raise hc tk (pmk_own PySem.F.excBase_ValueError xc.ex xc.g xc.kp xc.rs hg hdb)) fun Dd σ H ⟨A, F, r, w, x, w', rs, e, post⟩ => by
    cases e
    exact post (.ref C) none σ A F H rs ⟨xc.at_, .inl ⟨hk, rfl⟩⟩
end
end Rx

set_option Elab.async false
set_option linter.all false
set_option maxRecDepth 100000
set_option maxHeartbeats 1000000
set_option autoImplicit false
namespace Rx
open PySem L2 PySem.Spec
open PyProof.Rows (AllBare)
/-! ### except clauses with names, several of them: every suite gives back -/
/-- an exception that has landed in the frame of X -/
structure Cau (X : Cx) (pins : List (Addr × Obj)) (σ : St) (H : Hp) (e : Addr) (cls : Value) (dd : Option Addr) (B : Heap) (sI s : Shared) : Prop where
  J : Inv X pins σ H sI
  nb : ∀ b o, sI.heap.get? b = some o → b ∉ frs X.stack → B.get? b = some o
  up : sI.heap.UpToSlots s.heap
  fl : HandSPX.FlyingZ B (X.env :: X.outer) e (Zc cls dd) s.heap
  na : H e = none
  os : s.os = sI.os
  ag : AllBare s.gens
section
variable {X : Cx} {pins : List (Addr × Obj)} {σ : St} {H : Hp} {e : Addr} {cls : Value} {dd : Option Addr} {B : Heap} {sI s : Shared}
theorem Cau.inv (c : Cau X pins σ H e cls dd B sI s) : Inv X pins σ H s := c.J.landed c.nb c.fl.1 c.up c.os c.ag
/-- the suite's context -/
theorem Cau.held (hf : X.env.frame = some X.env.locals) (c : Cau X pins σ H e cls dd B sI s) : ∃ oe vs, s.heap.get? e = some oe ∧ Zc cls dd oe ∧ oe.data = .fields vs ∧ Inv (X.suite e ((e, oe) :: (X.pn ++ pins))) [] σ H s := by
  obtain ⟨oe, vs, g1, g2, g3⟩ := c.fl.there
  have far : e ∉ frs (X.env :: X.outer) := by
    intro m
    obtain ⟨_, o2, g4, g5⟩ := c.fl.2.2.1.mem m
    cases g1.symm.trans g4
    exact g5 _ g3
  have n1 : e ≠ X.env.locals := by
    intro q
    exact far (List.mem_filterMap.mpr ⟨X.env, .head _, hf.trans (congrArg some q.symm)⟩)
  have n2 : e ∉ X.fs := by
    intro m
    obtain ⟨v, hv, q⟩ := List.mem_filterMap.mp m
    exact far (List.mem_filterMap.mpr ⟨v, .tail _ hv, q⟩)
  exact ⟨oe, vs, g1, g2, g3, c.inv.suite g1 g3 c.na n1 n2⟩
/-- a clause's class, its name's slot, its suite -/
structure Cl where
  c : Value
  i : Nat
  ts : Addr → Value → Option Addr → TS
def endR (Dd : Ends) : Ends := { nx := fun _ _ => False, rt := Dd.rt, bk := fun _ _ => False, ct := fun _ _ => False }
def wCl (K : PySem.W.Frag) (Wo : WX) (Dd : Ends) : List Cl → WX
  | [] => Wo
  | k :: ks => fun cls d σ H => ∃ b, PySem.W.exmOne K cls k.c = some b ∧ (b = true → ∀ a, H a = none → k.ts a cls d (endR Dd) (σ.set k.i (some (.ref a))) H) ∧ (b = false → wCl K Wo Dd ks cls d σ H)
inductive ClOk (X : Cx) : List ExceptHandler → List Cl → Prop
  | nil : ClOk X [] []
  | cons {x n : Str} {k : Cl} {b1 : Stmt} {su : List Stmt} {p q : Pos} {hs : List ExceptHandler} {ks : List Cl} (hc : Names X x k.c) (hi : X.N[k.i]? = some n) (hl : X.env.kindOf n = some .local)
      (h : ∀ (a : Addr) (oe : Obj) (cls : Value) (d : Option Addr) (pn : List (Addr × Obj)), Zc cls d oe → (∃ vs, oe.data = .fields vs) → PSs (X.suite a ((a, oe) :: pn)) (b1 :: su) (k.ts a cls d))
      (r : ClOk X hs ks) : ClOk X (.ExceptHandler (some (.Name x p)) (some n) (b1 :: su) q :: hs) (k :: ks)
theorem cau_go {Dd : Ends} {Wo : WX} (hs : X.stack = X.env :: X.outer) (hf : X.env.frame = some X.env.locals) (hN : X.N.Nodup) (tk : Takes X Wo) (c : Cau X pins σ H e cls dd B sI s) {hds : List ExceptHandler} {ks : List Cl} (ok : ClOk X hds ks) :
    wCl X.K Wo Dd ks cls dd σ H → wpAny (model X.prog X.w) X.A (handleBy (.ref e) X.env hds) (SP X pins Dd) X.xe s := by
  induction ok with
  | nil =>
    intro w
    have up2 : wpAny (model X.prog X.w) X.A (setFlight (.ref e) X.env.frame) (fun _ s2 => wpAny (model X.prog X.w) X.A (throw (.ref e) : Sem Flow) (SP X pins Dd) X.xe s2) X.xe s := by
      rw [hf]
      exact HandSPX.setFlight_upZ c.fl fun h2 held u2 => wpAny_throw (tk _ _ ⟨e, B, sI, pins, σ, H, cls, dd, rfl, c.J, c.nb, c.up.trans u2, .inr (.inr (hs.symm ▸ held)), c.na, c.os, c.ag, w⟩)
    obtain ⟨_, _, _, oe, vs, T, _, _, g1, _, g3, g4, _⟩ := id c.fl
    refine wpAny_handleBy_nil ?_
    unfold PySem.passOn
    refine wpAny_bind (wpAny_field g1 g3 g4 ?_)
    rw [if_neg (by simp)]
    first
      | exact wpAny_bind (wpAny_pure (wpAny_bind up2))
      | exact wpAny_bind up2
  | @cons x n k b1 su p q hds ks hc hi hl h r ih =>
    rintro ⟨b, hb, yes, no⟩
    obtain ⟨oe, vs, g1, g2, g3, S⟩ := c.held hf
    refine wpAny_handleBy_cons (codeAny_handlers_test ?_) (fun z => nomatch z)
    have lk : PySem.W.Looks (model X.prog X.w) s.heap (typeOf (.ref e)) cls := fun _ _ _ _ kk qq => wpAny_typeOf_ref (kk _ _ g1) (g2.1.symm ▸ qq)
    have nm : ∀ {Q : Value → Shared → Prop} {E : Value → Shared → Prop}, Q k.c s → wpAny (model X.prog X.w) (X.A.mark (some (.ref e))) (eval (.Name x p) X.env) Q E s := by
      intro Q E z
      rcases hc with ⟨y1, y2, y3 | ⟨y3, y4, y5⟩⟩
      · exact ld_glob (X := X.suite e ((e, oe) :: (X.pn ++ pins))) S y1 y3 z y2
      · exact ld_blt (X := X.suite e ((e, oe) :: (X.pn ++ pins))) S y1 y3 y4 z y5 y2
    refine nm ((PySem.W.exm_one (M := model X.prog X.w) c.inv.kIn lk hb).here ?_)
    cases b with
    | false => exact ih (no rfl)
    | true =>
      refine codeAny_handlers_suite_as (HandSPX.lands_againZ c.fl fun h2 fl2 u2 => ?_)
      have c2 : Cau X pins σ H e cls dd B sI { s with heap := h2 } := ⟨c.J, c.nb, c.up.trans u2, fl2, c.na, c.os, c.ag⟩
      obtain ⟨oe2, vs2, _, z2, z3, S2⟩ := c2.held hf
      refine store_ok (X := X.suite e ((e, oe2) :: (X.pn ++ pins))) (v := .ref e) S2 hN hi (.inl hl) rfl (fun s3 S3 => ?_) (.inr hl)
      refine wpAny_mono ((h e oe2 cls dd (X.pn ++ pins) z2 ⟨_, z3⟩).run [] s3 _ H _ S3 (yes rfl e c.na)) (fun f s4 r4 => ?_) (fun _ _ z => z.elim)
      cases f with
      | ret u =>
        obtain ⟨v, σ4, H4, S4, rv, q4⟩ := r4
        exact gone_ok (S4.unsuite c.J.ok) hN hi hl fun s5 J5 => ⟨v, _, H4, J5, rv, q4⟩
      | next =>
        obtain ⟨_, _, _, q4⟩ := r4
        exact q4.elim
      | brk =>
        obtain ⟨_, _, _, q4⟩ := r4
        exact q4.elim
      | cont =>
        obtain ⟨_, _, _, q4⟩ := r4
        exact q4.elim
end
section
variable {X : Cx} {body : List Stmt} {h1 : ExceptHandler} {hds : List ExceptHandler} {ks : List Cl} {pos : Pos} {tb : WX → TS} {Wo : WX}
theorem ps_clauses (hs : X.stack = X.env :: X.outer) (hf : X.env.frame = some X.env.locals) (hN : X.N.Nodup) (tk : Takes X Wo)
    (hb : ∀ (W : WX) (pn : List (Addr × Obj)) (xe : Value → Shared → Prop), Takes (X.tr pn xe) W → PassesOwn (model X.prog X.w) X.A X.env xe → PSs (X.tr pn xe) body (tb W)) (ok : ClOk X (h1 :: hds) ks) :
    PS X (.Try body (h1 :: hds) [] [] pos) (fun Dd σ H => tb (wCl X.K Wo Dd ks) Dd σ H) := by
  refine ⟨fun pins s σ H Dd I h => wpAny_Try_except ?_⟩
  have fr : X.A.frames = some (X.env :: X.outer) := by rw [I.ok.frames, hs]
  let xe : Value → Shared → Prop := fun u s1 => wpAny (model X.prog X.w) X.A (noteFrame u X.env) (fun _ s2 => wpAny (model X.prog X.w) X.A (setFlight u none) (fun _ s3 => wpAny (model X.prog X.w) X.A (handleBy u X.env (h1 :: hds)) (SP X pins Dd) X.xe s3) X.xe s2) X.xe s1
  have tk2 : Takes (X.tr (X.pn ++ pins) xe) (wCl X.K Wo Dd ks) := by
    rintro u s2 ⟨a, B, sI, _, σ2, H2, cls, d, rfl, J, nb, up, sky, na, os, ag, w⟩
    have sky2 : Sky B (X.env :: X.outer) a (Zc cls d) X.env.locals s2.heap := hs ▸ sky
    exact Sky.land Zc.steady fr hf sky2 fun h3 fl u3 => cau_go hs hf hN tk (s := { s2 with heap := h3 }) ⟨J.ofTry I.ok, nb, up.trans u3, fl, na, os, ag⟩ ok w
  refine wpAny_mono ((hb _ (X.pn ++ pins) xe tk2 PassesOwn.looking).run [] s σ H Dd (I.toTry _) h) (fun f s1 q => ?_) (fun _ _ z => z)
  cases f with
  | next => obtain ⟨_, _, J, z⟩ := q; exact wpAny_execs_nil ⟨_, _, J.ofTry I.ok, z⟩
  | ret u => obtain ⟨_, _, _, J, r, z⟩ := q; exact ⟨_, _, _, J.ofTry I.ok, r, z⟩
  | brk => obtain ⟨_, _, J, z⟩ := q; exact ⟨_, _, J.ofTry I.ok, z⟩
  | cont => obtain ⟨_, _, J, z⟩ := q; exact ⟨_, _, J.ofTry I.ok, z⟩
end
end Rx

set_option Elab.async false
set_option linter.all false
set_option maxRecDepth 100000
set_option maxHeartbeats 1000000
set_option autoImplicit false
namespace Rx
open PySem L2
/-! ### try, by data -/
/-- a suite gives back what g says of the exception; slot i is its name's -/
def tSu (G : Cg) (i : Nat) (g : Xn → Option D) : Addr → Value → Option Addr → TS := fun a cls d Dd σ H => ∃ A F w x y, Same F H ∧ Omg G.C A F H w ∧ XRep G.ec F H cls d x ∧ g x = some y ∧ (∃ σ0 : St, σ = σ0.set i (some (.ref a))) ∧ H a = none ∧
  ∀ v A' F' H', Step A F H A' F' H' → Omg G.C A' F' H' w → Rt G.K A' F' v y → Dd.rt v H'
inductive HsOk (X : Cx) (G : Cg) : List ExceptHandler → List (Nat × (Xn → Option D)) → Prop
  | nil : HsOk X G [] []
  | cons {x n : Str} {i k : Nat} {g : Xn → Option D} {c : Value} {b1 : Stmt} {su : List Stmt} {p q : Pos} {hs : List ExceptHandler} {gs : List (Nat × (Xn → Option D))} (hc : Names X x c) (hx : ∀ j cls, G.ec j = some cls → PySem.W.exmOne X.K cls c = some (subX j k))
      (hi : X.N[i]? = some n) (hl : X.env.kindOf n = some .local)
      (h : ∀ (a : Addr) (oe : Obj) (cls : Value) (d : Option Addr) (pn : List (Addr × Obj)), Zc cls d oe → (∃ vs, oe.data = .fields vs) → PSs (X.suite a ((a, oe) :: pn)) (b1 :: su) (tSu G i g a cls d))
      (r : HsOk X G hs gs) : HsOk X G (.ExceptHandler (some (.Name x p)) (some n) (b1 :: su) q :: hs) ((k, g) :: gs)
section
variable {X : Cx} {G : Cg} {body : List Stmt} {h1 : ExceptHandler} {hds : List ExceptHandler} {gs : List (Nat × (Xn → Option D))} {pos : Pos} {db : Sx}
theorem HsOk.cl (ok : HsOk X G hds gs) : ∃ ks, ClOk X hds ks ∧ ∀ (Dd : Ends) cls dd σ A F H r w x out w' Fp, RelS G A F H σ r w → XRep G.ec F H cls dd x → hGo x r w gs = some (out, w') → PostS G Dd Fp out w' → wCl X.K G.W Dd ks cls dd σ H := by
  induction ok with
  | nil =>
    refine ⟨[], .nil, fun Dd cls dd σ A F H r w x out w' Fp rs xr e post => ?_⟩
    unfold hGo at e
    cases e
    exact post cls dd σ A F H rs xr
  | @cons x n i k g c b1 su p q hs gs hc hx hi hl h r ih =>
    obtain ⟨ks, ck, hk⟩ := ih
    refine ⟨⟨c, i, tSu G i g⟩ :: ks, .cons (k := ⟨c, i, tSu G i g⟩) hc hi hl h ck, fun Dd cls dd σ A F H r w y out w' Fp rs xr e post => ⟨subX y.cls k, hx _ _ xr.1, fun hb a na => ?_, fun hb => ?_⟩⟩
    · unfold hGo at e
      rw [if_pos hb] at e
      cases hg : g y with
      | none => rw [hg] at e; cases e
      | some d =>
        rw [hg] at e; cases e
        exact ⟨A, F, _, y, d, rs.rel.fh, rs.rel.om, xr, hg, ⟨σ, rfl⟩, na, fun v A' F' H' s' o' rt => post v A' F' H' (rs.ent.trans s') o' rt⟩
    · unfold hGo at e
      rw [if_neg (by rw [hb]; decide)] at e
      exact hk Dd cls dd σ A F H r w y out w' Fp rs xr e post
theorem psd_try (hs : X.stack = X.env :: X.outer) (hf : X.env.frame = some X.env.locals) (hN : X.N.Nodup) (tk : Takes X G.W)
    (hb : ∀ (W : WX) (pn : List (Addr × Obj)) (xe : Value → Shared → Prop), Takes (X.tr pn xe) W → PassesOwn (model X.prog X.w) X.A X.env xe → PSs (X.tr pn xe) body (tS { G with W := W } db))
    (ok : HsOk X G (h1 :: hds) gs) : PS X (.Try body (h1 :: hds) [] [] pos) (tS G (sTry db gs)) := by
  obtain ⟨ks, ck, hk⟩ := ok.cl
  refine psI (ps_clauses hs hf hN tk (tb := fun W => tS { G with W := W } db) hb ck) fun Dd σ H ⟨A, F, r, w, x, w', rs, e, post⟩ => ?_
  unfold sTry at e
  refine ⟨A, F, r, w, ?_⟩
  generalize hq : db G.c r w = q at e
  cases q with
  | none => cases e
  | some pr =>
    obtain ⟨o, w1⟩ := pr
    refine ⟨o, w1, ⟨rs.rel, rs.ent, rs.new⟩, by first | rfl | exact hq, ?_⟩
    cases o with
    | next r1 =>
      cases e
      exact fun σ' A' F' H' q s => post σ' A' F' H' ⟨q.rel, q.ent, q.new⟩ s
    | ret d =>
      cases e
      exact fun v A' F' H' q o rt => post v A' F' H' q o rt
    | exc y r1 => exact fun cls dd σ' A' F' H' q xr => hk Dd cls dd σ' A' F' H' r1 w1 y x w' F ⟨q.rel, q.ent, q.new⟩ xr e post
end
/-! ### what a suite asks of its exception -/
section
variable {X : Cx} {a : Addr} {i : Nat} {n : Str} {e e2 : Expr} {pos : Pos}
/-- the value v, whatever else; slot i holds the exception -/
def tK (i : Nat) (a : Addr) (v : V) : TE := fun σ H Q => (∃ σ0 : St, σ = σ0.set i (some (.ref a))) ∧ Q v H
def tKb (i : Nat) (a : Addr) (b : Bool) : TT := fun σ H Q => (∃ σ0 : St, σ = σ0.set i (some (.ref a))) ∧ Q b H
theorem pk_name (hi : X.N[i]? = some n) (hv : Vis X.env.scope n) (hd : (n == ("__debug__" : Str)) = false) (hcd : (n == ("__classdict__" : Str)) = false) : PE X (.Name n pos) (tK i a (.ref a)) := by
  refine ⟨fun pins s σ H Q I q => (pe_var (i := i) hi hv hd hcd).run pins s σ H Q I ?_⟩
  obtain ⟨⟨σ0, rfl⟩, q⟩ := q
  refine ⟨.ref a, ?_, q⟩
  have hl : i < σ0.length := by
    have h2 := I.len
    rw [List.length_set] at h2
    rw [h2]
    exact (List.getElem?_eq_some_iff.mp hi).1
  rw [List.getElem?_set_self hl]
theorem pk_str {x : Str} {j : Nat} : PE X (.Constant (.str x) j pos) (tK i a (.str x)) := peI pe_str fun _ _ _ h => h.2
theorem ptk_isi {G : Cg} {oe : Obj} {pn : List (Addr × Obj)} {C : Addr} {u : Value} {x : Str} {b : Bool} {ps p1 p2 : Pos} (ec : ExcC X.K C) (hz : Zc (.ref C) none oe) (hfd : ∃ vs, oe.data = .fields vs) (hk : PySem.W.kitOne X.K (.ref C) u = some b)
    (hi : X.N[i]? = some n) (hv : Vis X.env.scope n) (hd : (n == ("__debug__" : Str)) = false) (hcd : (n == ("__classdict__" : Str)) = false) (hg : X.env.kindOf "isinstance" = some .globalImplicit) (hm : X.mg "isinstance" = none) (hgx : X.env.kindOf x = some .globalImplicit) (hmx : X.mg x = some u) {cv : V} (hcv : RelV cv u) (hun : ∀ z, RelV cv z → z = u) (hdx : (x == ("__debug__" : Str)) = false) :
    PE (X.suite a ((a, oe) :: pn)) (.Call (.Name "isinstance" ps) [.Name n p1, .Name x p2] [] pos) (tK i a (.bl b)) := by
  refine peI (pe_callB (call_isE ec hz hfd) hg hm (by decide +kernel) (pa_cons (pk_name (a := a) hi hv hd hcd) (pa_cons (pe_glob hgx hmx hcv hdx) pa_nil rfl) rfl) (by decide) (by decide) rfl rfl) fun σ H Q q => ?_
  exact ⟨q.1, cv, u, b, rfl, hun, hk, q.2⟩
theorem ptk_of {b : Bool} (h : PE X e (tK i a (.bl b))) (he : ∀ whole, isTrue e X.env whole = (do let v ← whole; standAt e.pos; holding [v] (truthy v))) : PT X e (tKb i a b) :=
  ptI (pt_truth h he) fun σ H Q q => ⟨q.1, b, rfl, q.2⟩
theorem ptk_not {b : Bool} (h : PT X e (tKb i a b)) : PT X (.UnaryOp .Not e pos) (tKb i a (!b)) := ptI (pt_not h) fun σ H Q q => by
  cases b <;> exact ⟨q.1, q.2⟩
theorem ptk_and {b b2 : Bool} (h : PT X e (tKb i a b)) (h2 : PT X e2 (tKb i a b2)) : PT X (.BoolOp .And [e, e2] pos) (tKb i a (b && b2)) := by
  refine ptI (pw_and h (pw_and1 h2)).pt fun σ H Q q => ⟨q.1, ?_⟩
  cases b with
  | true => exact ⟨q.1, q.2⟩
  | false => exact q.2
theorem psk_ite {G : Cg} {g : Xn → Option D} {cls : Value} {d : Option Addr} {c : Expr} {x y : Str} {j j2 : Nat} {p2 p3 p4 : Pos} {b : Xn → Bool} (hg : ∀ z, g z = some (.str (if b z then x else y))) (hb : ∀ z, G.ec z.cls = some cls → d = none → PT X c (tKb i a (b z))) (hd : ∀ (F H : Hp) (z : Xn), XRep G.ec F H cls d z → d = none) :
    PSs X [.Return (some (.IfExp c (.Constant (.str x) j p2) (.Constant (.str y) j2 p3) p4)) pos] (tSu G i g a cls d) := by
  refine ⟨fun pins s σ H Dd I q => ?_⟩
  obtain ⟨A, F, w, z, r, sf, om, xr, e, hσ, na, post⟩ := q
  refine (pss_one (ps_ret (pe_ifExp (hb z xr.1 (hd F H z xr)) pe_str pe_str))).run pins s σ H Dd I ?_
  rw [hg] at e
  cases e
  refine ⟨hσ, ?_⟩
  cases hz : b z with
  | true =>
    rw [hz] at post
    exact post (.str x) A F H (.refl sf) om (.inl (.str x))
  | false =>
    rw [hz] at post
    exact post (.str y) A F H (.refl sf) om (.inl (.str y))
end
end Rx

set_option Elab.async false
set_option linter.all false
set_option maxRecDepth 100000
set_option maxHeartbeats 1000000
set_option autoImplicit false
namespace Rx
open PySem L2
/-! ### a program's defs, by number -/
structure Df where
  st : Stmt
  x : Str
  N : List Str
  ps : List Str
  M : List Nat
  body : Sx
def tbOf (L : List (Nat × Df)) : Tb := fun i => (L.lookup i).map fun d => ⟨d.ps.length, d.N.length, d.body⟩
section
variable (P : Program) (w : World) (K : PySem.W.Frag) (mg : Str → Option Value) (base : Heap) (C : Addr) (ec : Nat → Option Value)
def Callee (c : Cf) (k : Nat) (x : Str) (fid np : Nat) : Prop := ∃ (f : Addr) (fd : FuncData) (ps : List Str), ps.length = np ∧ mg x = some (.ref f) ∧ PySem.W.keepIn K (.ref f) = true ∧ Binds K fd ps [] ∧ FnOk P w K mg base (L2.CX P w) k f fd ps (spOf K C ec c fid np)
def BodyOk (c : Cf) (k : Nat) (d : Df) : Prop := ∀ (f : Addr) (cdv : Value) (A : Around) (outer : List PySem.Env) (s : Shared) (H : Hp) (E : XK) (A0 : List Addr) (F0 : Hp), Room k (A.deeper (PyProof.Rows.envOfC d.x (defScope d.st) s.heap.objs.size f cdv)) →
  PSs (cxOf (L2.CX P w) P w K mg base d.N d.x (defScope d.st) f cdv A outer s H E) (defBody d.st) (tS ⟨K, C, d.M, fun cls dd _ H' => E cls dd H', c, ec, A0, F0, H⟩ d.body)
def AllD (p : Df → Prop) : List (Nat × Df) → Prop
  | [] => True
  | d :: r => p d.2 ∧ AllD p r
theorem AllD.at_ {p : Df → Prop} : ∀ {L : List (Nat × Df)} {i : Nat} {d : Df}, AllD p L → L.lookup i = some d → p d
  | [], _, _, _, h => by cases h
  | (j, e) :: r, i, d, a, h => by
    rw [List.lookup_cons] at h
    split at h
    · cases h; exact a.1
    · exact AllD.at_ (L := r) (i := i) a.2 h
variable {P w K mg base C ec}
theorem all_ok {L : List (Nat × Df)} (hF : AllD (fun d => ∃ (f : Addr) (fd : FuncData), mg d.x = some (.ref f) ∧ FunD K d.x d.x (defArgs d.st) (defBody d.st) (defScope d.st) [] [] f fd ∧ Binds K fd d.ps []) L)
    (hS : AllD (fun d => FnScope d.N d.ps (defScope d.st) ∧ d.ps.length ≤ d.N.length ∧ ∀ i, i < d.ps.length → d.M.contains i = false) L)
    (hB : ∀ (c : Cf) (k : Nat), (∀ (j : Nat) (e : Df), L.lookup j = some e → Callee P w K mg base C ec c k e.x j e.ps.length) → AllD (BodyOk P w K mg base C ec c k) L) :
    ∀ (n i : Nat) (d : Df), L.lookup i = some d → Callee P w K mg base C ec (run (tbOf L) n) n d.x i d.ps.length := by
  intro n
  induction n with
  | zero =>
    intro i d h
    obtain ⟨f, fd, e1, e2, e3⟩ := hF.at_ h
    refine ⟨f, fd, d.ps, rfl, e1, e2.kp, e3, ⟨fun vs H Q E q => ?_, fun A outer s H args us vs Q E _ _ _ _ q => ?_⟩⟩
    · obtain ⟨_, _, _, _, _, _, hl, _⟩ := q; exact hl
    · obtain ⟨_, _, _, _, _, _, _, _, _, _, hr, _⟩ := q; cases hr
  | succ n ih =>
    intro i d h
    obtain ⟨f, fd, e1, e2, e3⟩ := hF.at_ h
    obtain ⟨s1, s2, s3⟩ := hS.at_ h
    have b := (hB _ n ih).at_ h
    refine ⟨f, fd, d.ps, rfl, e1, e2.kp, e3, fn_ok (c := run (tbOf L) n) e2 s1 rfl rfl s2 s3 (fun ds w0 x w' hr => ?_) (fun cdv A outer s H E A0 F0 hr => b f cdv A outer s H E A0 F0 hr)⟩
    have ht : tbOf L i = some ⟨d.ps.length, d.N.length, d.body⟩ := by unfold tbOf; rw [h]; rfl
    unfold run at hr
    rw [ht] at hr
    simp only at hr
    split at hr
    · rename_i hq; exact ⟨hq.1, hr⟩
    · cases hr
end
section
variable {X : Cx} {G : Cg} {e : Expr} {es : List Expr} {des : Exs} {pos : Pos}
theorem dCons_len {a : Ex} {n : Nat} (h : ∀ c r w ds w', des c r w = some (.vals ds, w') → ds.length = n) : ∀ c r w ds w', dCons a des c r w = some (.vals ds, w') → ds.length = n + 1 := fun c r w ds w' q => by
  obtain ⟨d, ds', w1, rfl, _, q2⟩ := dCons_some q
  rw [List.length_cons, h _ _ _ _ _ q2]
theorem dNil_len : ∀ c r w ds w', dNil c r w = some (.vals ds, w') → ds.length = 0 := fun c r w ds w' q => by rw [dNil_some q]; rfl
theorem pd_callE {k np fid : Nat} {x : Str} {p : Pos} (hK : G.K = X.K) (tk : Takes X G.W) (Fn : Callee X.prog X.w X.K X.mg X.base G.C G.ec G.c k x fid np) (hr : Room k X.A) (hg : Gl X x)
    (ha : PA X (e :: es) (tDs G des)) (hnp : (e :: es).length = np) (hdb : (x == ("__debug__" : Str)) = false) (he : starEach (e :: es) X.env = (false, eval e X.env) :: starEach es X.env) (hpl : (backTo pos (starEach es X.env)).any (·.1) = false)
    (hlen : ∀ c r w ds w', des c r w = some (.vals ds, w') → ds.length = np) : PE X (.Call (.Name x p) (e :: es) [] pos) (tD G (dCall fid des)) := by
  obtain ⟨f, fd, ps, hp, hm, hk, hb, fn⟩ := Fn
  rw [← hK] at fn
  rw [hK] at fn
  exact pd_call tk (by rw [hK]; exact fn) hr hg hm hk hb ha hnp hdb he hpl hlen
end
/-! ### exception classes -/
def ecOf (K : PySem.W.Frag) (xs : List (Nat × Str)) : Nat → Option Value := fun j => (xs.lookup j).map fun x => .ref (He.ga K x)
def excB (K : PySem.W.Frag) (D : Addr) : Bool :=
  He.eqO (PySem.W.findIn K (.ref D) "__getattribute__") (some (some (.builtin "BaseException.__getattribute__"))) && (He.eqO (PySem.W.findIn K (.ref D) "__getattr__") (some none) && (decide (PySem.W.subIn K (.ref D) (.type "BaseException") = some true) && (PySem.W.hasDictIn K D &&
  (He.eqO (PySem.W.findIn K (.ref D) "__class__") (some (some (.builtin "object.__class__"))) && (He.eqO (PySem.W.specialIn K (.builtin "object.__class__") "__get__") (some (some (.builtin "getset_descriptor.__get__"))) && (decide (PySem.W.takesIn K (.builtin "object.__class__") = some true) && decide (PySem.W.mroIn K D (.type "object") = some true)))))))
theorem excB_ok {K : PySem.W.Frag} {D : Addr} (h : excB K D = true) : ExcC K D := by
  unfold excB at h
  simp only [Bool.and_eq_true, decide_eq_true_eq] at h
  obtain ⟨h1, h2, h3, h4, h5, h6, h7, h8⟩ := h
  exact ⟨He.eqO_ok h1, He.eqO_ok h2, h3, h4, He.eqO_ok h5, He.eqO_ok h6, h7, h8⟩
def xsOk (K : PySem.W.Frag) (xs : List (Nat × Str)) : Bool := xs.all fun p => (He.Fa.glo p.2).ok K && ((He.Fa.exc p.2).ok K && (excB K (He.ga K p.2) && (decide (p.1 ≠ 1) && xs.all fun q => (He.Fa.exm p.2 q.2 (subX p.1 q.1)).ok K && (He.ga K p.2 != He.ga K q.2 || subX p.1 q.1))))
/-- the law's exception classes: their numbers, their names -/
structure XAll (K : PySem.W.Frag) (mg : Str → Option Value) (ec : Nat → Option Value) (xs : List (Nat × Str)) : Prop where
  at_ : ∀ k x, xs.lookup k = some x → ∃ C, ec k = some (.ref C) ∧ mg x = some (.ref C) ∧ PySem.W.keepIn K (.ref C) = true ∧ PySem.W.excIn K C [.type "ValueError", .type "Exception", .type "BaseException", .type "object"] "ValueError.__new__" = true ∧ PySem.W.subIn K (.ref C) (.type "BaseException") = some true ∧ PySem.W.typeIn K (.ref C) = some (.type "type")
  inv : ∀ j cls, ec j = some cls → j ≠ 1 ∧ ∃ C, cls = .ref C ∧ ExcC K C ∧ ∀ k x u, xs.lookup k = some x → mg x = some u → PySem.W.exmOne K cls u = some (subX j k) ∧ PySem.W.kitOne K cls u = some (subX j k)
theorem lookup_mem {α β : Type} [BEq α] [LawfulBEq α] {k : α} {x : β} : ∀ {xs : List (α × β)}, xs.lookup k = some x → (k, x) ∈ xs
  | [], h => by cases h
  | (a, b) :: r, h => by
    rw [List.lookup_cons] at h
    split at h
    · rename_i q
      have := eq_of_beq q
      subst this
      cases h
      exact .head _
    · exact .tail _ (lookup_mem h)
theorem xsOk_all {K : PySem.W.Frag} {mg : Str → Option Value} {h : Heap} {xs : List (Nat × Str)} (X : K.In h) (G : h.Ns mainGlobals mg) (ok : xsOk K xs = true) : XAll K mg (ecOf K xs) xs := by
  have one : ∀ k x, xs.lookup k = some x → mg x = some (.ref (He.ga K x)) ∧ (He.Fa.exc x).ok K = true ∧ excB K (He.ga K x) = true ∧ k ≠ 1 ∧ ∀ q ∈ xs, (He.Fa.exm x q.2 (subX k q.1)).ok K = true ∧ (He.ga K x = He.ga K q.2 → subX k q.1 = true) := fun k x hk => by
    have m := List.all_eq_true.mp ok (k, x) (lookup_mem hk)
    simp only [Bool.and_eq_true, decide_eq_true_eq] at m
    obtain ⟨m1, m2, m3, m4, m5⟩ := m
    refine ⟨He.glo_ok X G m1, m2, m3, m4, fun q hq => ?_⟩
    have m6 := List.all_eq_true.mp m5 q hq
    simp only [Bool.and_eq_true, Bool.or_eq_true] at m6
    refine ⟨m6.1, fun e => ?_⟩
    rcases m6.2 with z | z
    · rw [e] at z; simp at z
    · exact z
  refine ⟨fun k x hk => ?_, fun j cls hj => ?_⟩
  · obtain ⟨e1, e2, e3, e4, e5⟩ := one k x hk
    obtain ⟨x1, x2, x3, x4⟩ := He.exc_ok e2
    exact ⟨He.ga K x, by unfold ecOf; rw [hk]; rfl, e1, x2, x1, x3, x4⟩
  · unfold ecOf at hj
    cases hx : xs.lookup j with
    | none => rw [hx] at hj; cases hj
    | some y =>
      rw [hx] at hj; cases hj
      obtain ⟨e1, e2, e3, e4, e5⟩ := one j y hx
      refine ⟨e4, He.ga K y, rfl, excB_ok e3, fun k x u hk hu => ?_⟩
      obtain ⟨f1, _⟩ := one k x hk
      have e := hu.symm.trans f1
      cases e
      obtain ⟨q1, q2⟩ := e5 (k, x) (lookup_mem hk)
      have q3 := He.exm_ok q1
      refine ⟨q3, ?_⟩
      unfold PySem.W.kitOne
      split
      · rename_i z
        have z2 : He.ga K y = He.ga K x := by
          have := eq_of_beq z
          exact Value.ref.inj this
        rw [q2 z2]
      · unfold PySem.W.exmOne at q3
        split at q3
        · exact q3
        · cases q3
section
variable {X : Cx} {G : Cg} {pos : Pos} {xs : List (Nat × Str)}
theorem psd_raiseE {k : Nat} {x m : Str} {j : Nat} {p p2 p3 : Pos} (hc : X.calm = true) (tk : Takes X G.W) (xa : XAll X.K X.mg G.ec xs) (hx : xs.lookup k = some x) (hg : Gl X x) (hdb : (x == ("__debug__" : Str)) = false) :
    PS X (.Raise (some (.Call (.Name x p) [.Constant (.str m) j p2] [] p3)) none pos) (tS G (sRaise k)) := by
  obtain ⟨C, a1, a2, a3, a4, a5, a6⟩ := xa.at_ k x hx
  exact psd_raise hc tk ⟨a1, a2, a3, a4, raises_own a5 a6⟩ (xa.inv k _ a1).1 hg hdb
/-- `except x as n: return s if isinstance(n, y) and not isinstance(n, z) else t` -/
theorem hs_two {i k k2 k3 : Nat} {n x y z s t : Str} {hs : List ExceptHandler} {gs : List (Nat × (Xn → Option D))} {j1 j2 : Nat} {p q q1 q2 q3 q4 q5 q6 q7 q8 q9 q10 q11 q12 q13 q14 : Pos} (xa : XAll X.K X.mg G.ec xs)
    (hx : xs.lookup k = some x) (hy : xs.lookup k2 = some y) (hz : xs.lookup k3 = some z) (gx : Gl X x) (gy : X.env.kindOf y = some .globalImplicit) (gz : X.env.kindOf z = some .globalImplicit) (gi : X.env.kindOf "isinstance" = some .globalImplicit) (mi : X.mg "isinstance" = none)
    (hi : X.N[i]? = some n) (hl : X.env.kindOf n = some .local) (hv : Vis X.env.scope n) (hd : (n == ("__debug__" : Str)) = false) (hcd : (n == ("__classdict__" : Str)) = false) (dx : (x == ("__debug__" : Str)) = false) (dy : (y == ("__debug__" : Str)) = false) (dz : (z == ("__debug__" : Str)) = false)
    (r : HsOk X G hs gs) :
    HsOk X G (.ExceptHandler (some (.Name x p)) (some n) [.Return (some (.IfExp (.BoolOp .And [.Call (.Name "isinstance" q1) [.Name n q2, .Name y q3] [] q4, .UnaryOp .Not (.Call (.Name "isinstance" q5) [.Name n q6, .Name z q7] [] q8) q9] q10) (.Constant (.str s) j1 q11) (.Constant (.str t) j2 q12) q13)) q14] q :: hs)
      ((k, fun e => some (.str (if subX e.cls k2 && !subX e.cls k3 then s else t))) :: gs) := by
  obtain ⟨C, a1, a2, _⟩ := xa.at_ k x hx
  obtain ⟨Cy, _, b2, _⟩ := xa.at_ k2 y hy
  obtain ⟨Cz, _, c2, _⟩ := xa.at_ k3 z hz
  refine .cons (c := .ref C) ⟨gx, dx, .inl a2⟩ (fun j cls hj => ?_) hi hl (fun a oe cls d pn hzc hfd => ?_) r
  · obtain ⟨_, D, rfl, _, h⟩ := xa.inv j cls hj
    exact (h k x _ hx a2).1
  · refine psk_ite (b := fun e => subX e.cls k2 && !subX e.cls k3) (fun _ => rfl) (fun w hw hdn => ?_) (fun F H w xr => ?_)
    · obtain ⟨_, D, rfl, ed, h⟩ := xa.inv _ cls hw
      subst hdn
      refine ptk_and (ptk_of (ptk_isi (G := G) ed hzc hfd (h k2 y _ hy b2).2 hi hv hd hcd gi mi gy b2 (cv := .ref Cy) rfl (fun _ e => e) dy) (fun _ => rfl)) (ptk_not (ptk_of (ptk_isi (G := G) ed hzc hfd (h k3 z _ hz c2).2 hi hv hd hcd gi mi gz c2 (cv := .ref Cz) rfl (fun _ e => e) dz) (fun _ => rfl)))
    · rcases xr.2 with z | z
      · exact z.2
      · exact absurd z.1 (xa.inv _ cls xr.1).1
end
/-! ### the law's head and end -/
def hookX (n : Nat) (fa : List He.Fa) (fn : List He.DefD) (xs : List (Nat × Str)) : PySem.W.Hook where
  α := He.AlD × Bool
  obs := fun s => (He.obsDG n fa fn s.heap.get?, xsOk (He.frG s.heap.get? (He.asD s.heap.get? n)) xs)
  val := fun _ => (He.valD fn, true)
  says := fun _ h => ∃ K : PySem.W.Frag, K.In h ∧ He.SaysD fa fn K ∧ xsOk K xs = true
  of := fun _ s e => ⟨He.frG s.heap.get? (He.asD s.heap.get? n), He.frG_in, congrArg Prod.fst e, congrArg Prod.snd e⟩
  keeps := fun _ _ _ ⟨K, hK, c⟩ k => ⟨K, PySem.W.Frag.In.keeps hK k, c⟩
def obX (n : Nat) (fa : List He.Fa) (fn : List He.DefD) (xs : List (Nat × Str)) (s : PySem.W.SharedT) : He.AlD × Bool := (He.obsDG n fa fn (HandSHeadRun.getT s), xsOk (He.frG (HandSHeadRun.getT s) (He.asD (HandSHeadRun.getT s) n)) xs)
theorem obX_eq {n : Nat} {fa : List He.Fa} {fn : List He.DefD} {xs : List (Nat × Str)} (s : PySem.W.SharedT) : obX n fa fn xs s = (hookX n fa fn xs).obs s.abs := by
  have e : HandSHeadRun.getT s = s.abs.heap.get? := funext (HandSHeadRun.getT_eq s)
  unfold obX
  rw [e]
  rfl
theorem cxx_no {P : Program} {w : World} {H : Hp} {s : Shared} {e : Value} {s' : Shared} (h : L2.CX P w [] H s (fun _ _ _ => False) e s') : False := by
  obtain ⟨_, _, _, _, _, _, _, _, _, _, _, _, z⟩ := h
  exact z
theorem walkX {l : PySem.W.OpenLaw} {n k : Nat} {q : Program} {loose : List Str} {XP : (Str → Option Value) → Heap → Prop} {YP : World → Heap → Prop} {d : DefRec} {x : Str}
    (hn : l.most = some n) (hn2 : n ≤ sizeLine) (hdf : d.params.defaults = []) (hr : Room k callerA)
    (F : ∀ (w : World) (mg : Str → Option Value) (f : Addr) (h : Heap), YP w h → h.Ns mainGlobals mg → mg d.name = some (.ref f) →
      ∃ (K : PySem.W.Frag) (fd : FuncData) (sp : Sp), K.In h ∧ (∀ (s : Shared) (u : Value), BindsTo s fd ⟨[u], []⟩ [(x, u)]) ∧
        (∀ (H : Hp) (a : Addr) (ns : List Int), ns.length ≤ n → Only H → SqL K H a (ns.map V.int) → sp [.ref a] H (fun v _ => v = .bl true) fun _ _ _ => False) ∧
        ∀ base : Heap, K.In base → base.Ns mainGlobals mg → FnOk l.prog w K mg base (L2.CX l.prog w) k f fd [x] sp) :
    PySem.W.WalkO q loose XP YP l.row.toRowW d [] (fun f vs => PySem.call f vs) := by
  refine Att.attach_call hn hdf fun w s0 s1 mg mb f o pm cd doc a vs ns g1 g2 g3 g4 g5 g6 g7 g8 g9 g10 => ?_
  obtain ⟨K, fd, sp, c1, c2, c3, c4⟩ := F w mg f _ g2 g1.T.g g6
  exact law_call c1 g1.T.g g1.T.b g1.T.builtins g1.T.nolimit g10 g7 g8 (Nat.le_trans g9 hn2) hr c4 c2 (fun H hO hS => c3 H a ns g9 hO hS) fun H e s' z => cxx_no z
end Rx

set_option Elab.async false
set_option linter.all false
set_option maxRecDepth 100000
set_option maxHeartbeats 1000000
set_option autoImplicit false
namespace Rx
open PySem L2
section
variable {X : Cx} {G : Cg} {a b c e tg iter elt : Expr} {es : List Expr} {body : List Stmt} {da db dc de : Ex} {des src : Exs} {dbd : Sx} {pos ps : Pos}
/-! ### builtins, in short -/
theorem pd_fnB {id : String} {p : Pr} {x : Str} (h : FnS X G (.builtin id) p) (hg : Gl X x) (hm : X.mg x = none) (hv : bootBuiltins x = some (.builtin id)) (ha : PA X (e :: es) (tOs G des)) (hn : x ≠ "__name__") (hdb : (x == ("__debug__" : Str)) = false)
    (he : starEach (e :: es) X.env = (false, eval e X.env) :: starEach es X.env) (hpl : (backTo pos (starEach es X.env)).any (·.1) = false) : PE X (.Call (.Name x ps) (e :: es) [] pos) (tD G (dPrim p des)) := by
  obtain ⟨r, h1, h2⟩ := h
  exact pd_callB h1 h2 hg hm hv ha hn hdb he hpl
theorem pd_fnT {T : String} {p : Pr} {x : Str} (h : FnS X G (.type T) p) (hg : Gl X x) (hm : X.mg x = none) (hv : bootBuiltins x = some (.type T)) (ha : PA X (e :: es) (tOs G des)) (hn : x ≠ "__name__") (hdb : (x == ("__debug__" : Str)) = false)
    (he : starEach (e :: es) X.env = (false, eval e X.env) :: starEach es X.env) (hpl : (backTo pos (starEach es X.env)).any (·.1) = false) : PE X (.Call (.Name x ps) (e :: es) [] pos) (tD G (dPrim p des)) := by
  obtain ⟨r, h1, h2⟩ := h
  exact pd_callTy h1 h2 hg hm hv ha hn hdb he hpl
theorem fs_srt (hu : X.A.units + 64 < cLine) : FnS X G (.builtin "sorted") .sorted := ⟨_, cr_srt hu, fun Q vs H k => fs_sorted (G := G) hu Q vs H (by
  obtain ⟨A, F, w, v, d1, d, e1, s, o, r, e, f⟩ := p1_args (f := sortedP) rfl k
  cases d1 with
  | list ds => exact ⟨A, F, w, v, ds, d, e1, s, o, r, e, f⟩
  | _ => cases e)⟩
section
variable (hst : starEach [a] X.env = (false, eval a X.env) :: starEach [] X.env)
include hst
theorem pd_len (hK : G.K = X.K) (hg : Gl X "len") (hm : X.mg "len" = none) (ha : PE X a (tO G da)) : PE X (.Call (.Name "len" ps) [a] [] pos) (tD G (dPrim .len (dCons da dNil))) :=
  pd_fnB (fs_len hK) hg hm (by decide +kernel) (pao_cons ha pao_nil hst) (by decide) (by decide) hst rfl
theorem pd_tuple (hg : Gl X "tuple") (hm : X.mg "tuple" = none) (ha : PE X a (tO G da)) : PE X (.Call (.Name "tuple" ps) [a] [] pos) (tD G (dPrim .tuple (dCons da dNil))) :=
  pd_fnT fs_tuple hg hm (by decide +kernel) (pao_cons ha pao_nil hst) (by decide) (by decide) hst rfl
theorem pd_list (hg : Gl X "list") (hm : X.mg "list" = none) (ha : PE X a (tO G da)) : PE X (.Call (.Name "list" ps) [a] [] pos) (tD G (dPrim .list (dCons da dNil))) :=
  pd_fnT fs_list hg hm (by decide +kernel) (pao_cons ha pao_nil hst) (by decide) (by decide) hst rfl
theorem pd_int1 (hg : Gl X "int") (hm : X.mg "int" = none) (ha : PE X a (tO G da)) : PE X (.Call (.Name "int" ps) [a] [] pos) (tD G (dPrim .int (dCons da dNil))) :=
  pd_fnT fs_int hg hm (by decide +kernel) (pao_cons ha pao_nil hst) (by decide) (by decide) hst rfl
theorem pd_sorted (hu : X.A.units + 64 < cLine) (hg : Gl X "sorted") (hm : X.mg "sorted" = none) (ha : PE X a (tO G da)) : PE X (.Call (.Name "sorted" ps) [a] [] pos) (tD G (dPrim .sorted (dCons da dNil))) :=
  pd_fnB (fs_srt hu) hg hm (by decide +kernel) (pao_cons ha pao_nil hst) (by decide) (by decide) hst rfl
end
section
variable (hst : starEach [a, b] X.env = (false, eval a X.env) :: starEach [b] X.env) (hst2 : starEach [b] X.env = (false, eval b X.env) :: starEach [] X.env) (hpl : (backTo pos (starEach [b] X.env)).any (·.1) = false)
include hst hst2 hpl
theorem pd_max2 (hc : X.calm = true) (hg : Gl X "max") (hm : X.mg "max" = none) (ha : PE X a (tO G da)) (hb : PE X b (tO G db)) : PE X (.Call (.Name "max" ps) [a, b] [] pos) (tD G (dPrim .max2 (dCons da (dCons db dNil)))) :=
  pd_fnB (fs_max2 hc) hg hm (by decide +kernel) (pao_cons ha (pao_cons hb pao_nil hst2) hst) (by decide) (by decide) hst hpl
theorem pd_min2 (hc : X.calm = true) (hg : Gl X "min") (hm : X.mg "min" = none) (ha : PE X a (tO G da)) (hb : PE X b (tO G db)) : PE X (.Call (.Name "min" ps) [a, b] [] pos) (tD G (dPrim .min2 (dCons da (dCons db dNil)))) :=
  pd_fnB (fs_min2 hc) hg hm (by decide +kernel) (pao_cons ha (pao_cons hb pao_nil hst2) hst) (by decide) (by decide) hst hpl
end
/-! ### module constants -/
theorem pd_globI {x : Str} {i : Int} (hg : Gl X x) (hm : ∃ t, X.mg x = some (.int i t)) (hd : (x == ("__debug__" : Str)) = false) : PE X (.Name x pos) (tD G (dC (.int i))) := by
  obtain ⟨t, hm⟩ := hm
  exact pd_glob hg hm (v := .int i) ⟨_, rfl⟩ (fun _ => .int i) hd
theorem pd_globS {x : Str} {i : Str} (hg : Gl X x) (hm : ∃ t, X.mg x = some (.str i t)) (hd : (x == ("__debug__" : Str)) = false) : PE X (.Name x pos) (tD G (dC (.str i))) := by
  obtain ⟨t, hm⟩ := hm
  exact pd_glob hg hm (v := .str i) ⟨_, rfl⟩ (fun _ => .str i) hd
/-! ### a comprehension into a name -/
theorem psd_setLcE {ifs : List Expr} {cond : Option Ex} {scope : Scope} {t : Tg} {own : List (Str × Nat)} {i : Nat} {y : Str} {py spos : Pos} (hc : X.calm = true) (hN : X.N.Nodup) (hi : PI X tg iter (tI G false src)) (ok : BlkOk X.N X.env.scope scope own)
    (hg : ∀ (s : Shared) (H : Hp) (C : Addr) (cl : List (Str × Addr)) (fp : List Addr), PG (X.blk s H scope (compEnvC scope cl C X.env) fp) tg (tG t))
    (ht : ∀ (s : Shared) (H : Hp) (C : Addr) (cl : List (Str × Addr)) (fp : List Addr), PTs (X.blk s H scope (compEnvC scope cl C X.env) fp) ifs (tCond (G.blk (own.map (·.2))) cond))
    (he : ∀ (s : Shared) (H : Hp) (C : Addr) (cl : List (Str × Addr)) (fp : List Addr), PE (X.blk s H scope (compEnvC scope cl C X.env) fp) elt (tD (G.blk (own.map (·.2))) de))
    (hs : ∀ x, foldedSetIterable iter X.env x = pure x) (hsl : ∀ i ∈ slotsT t, i ∈ own.map (·.2))
    (hy : X.N[i]? = some y) (hyl : X.env.scope.names.lookup y = some .local) (hsw : swapsWith (.ListComp elt [⟨tg, iter, ifs, 0⟩] scope pos) (some (.Name y py)) spos.line X.env = pure true) :
    PS X (.Assign [.Name y py] (.ListComp elt [⟨tg, iter, ifs, 0⟩] scope pos) spos) (tS G (sAsg i (dComp src t cond de (own.map (·.2))))) := psd_setLc hc hN hi ok hg ht he hs hsl hy hyl hsw
/-! ### with checks by computing -/
theorem notM {M is : List Nat} (h : is.all (fun i => !M.contains i) = true) : ∀ i ∈ is, M.contains i = false := fun i hi => by
  have := List.all_eq_true.mp h i hi
  simpa using this
theorem inL {is js : List Nat} (h : is.all (fun i => js.contains i) = true) : ∀ i ∈ is, i ∈ js := fun i hi => by
  have := List.all_eq_true.mp h i hi
  simpa using this
end
/-! ### a law's end -/
theorem all_ok2 {P : Program} {w : World} {K : PySem.W.Frag} {mg : Str → Option Value} {base : Heap} {C : Addr} {ec : Nat → Option Value} {L : List (Nat × Df)} (hF : AllD (fun d => ∃ (f : Addr) (fd : FuncData), mg d.x = some (.ref f) ∧ FunD K d.x d.x (defArgs d.st) (defBody d.st) (defScope d.st) [] [] f fd ∧ Binds K fd d.ps []) L)
    (hS : AllD (fun d => FnScope d.N d.ps (defScope d.st) ∧ d.ps.length ≤ d.N.length ∧ ∀ i, i < d.ps.length → d.M.contains i = false) L)
    (hB : ∀ (c : Cf) (k : Nat), (∀ (j : Nat) (e : Df), L.lookup j = some e → Callee P w K mg base C ec c k e.x j e.ps.length) → AllD (BodyOk P w K mg base C ec c k) L)
    (n i : Nat) (d : Df) (h : L.lookup i = some d) (f : Addr) (fd : FuncData) (e2 : FunD K d.x d.x (defArgs d.st) (defBody d.st) (defScope d.st) [] [] f fd) : FnOk P w K mg base (L2.CX P w) n f fd d.ps (spOf K C ec (run (tbOf L) n) i d.ps.length) := by
  cases n with
  | zero =>
    refine ⟨fun vs H Q E q => ?_, fun A outer s H args us vs Q E _ _ _ _ q => ?_⟩
    · obtain ⟨_, _, _, _, _, _, hl, _⟩ := q; exact hl
    · obtain ⟨_, _, _, _, _, _, _, _, _, _, hr, _⟩ := q; cases hr
  | succ n =>
    obtain ⟨s1, s2, s3⟩ := hS.at_ h
    have b := (hB _ n (all_ok hF hS hB n)).at_ h
    refine fn_ok (c := run (tbOf L) n) e2 s1 rfl rfl s2 s3 (fun ds w0 x w' hr => ?_) (fun cdv A outer s H E A0 F0 hr => b f cdv A outer s H E A0 F0 hr)
    have ht : tbOf L i = some ⟨d.ps.length, d.N.length, d.body⟩ := by unfold tbOf; rw [h]; rfl
    unfold run at hr
    rw [ht] at hr
    simp only at hr
    split at hr
    · rename_i hq; exact ⟨hq.1, hr⟩
    · cases hr
/-- what the law's def gives, of every script -/
theorem law_end {L : List (Nat × Df)} {n i : Nat} {K : PySem.W.Frag} {C : Addr} {ec : Nat → Option Value} (h : ∀ ns : List Int, ns.length ≤ 63 → ∃ w', run (tbOf L) n i [dScript ns] [] = some (.val (.bool true), w')) :
    ∀ (H : Hp) (a : Addr) (ns : List Int), ns.length ≤ 63 → Only H → SqL K H a (ns.map V.int) → spOf K C ec (run (tbOf L) n) i 1 [.ref a] H (fun v _ => v = .bl true) fun _ _ _ => False := by
  intro H a ns hl _ hS
  obtain ⟨w', e⟩ := h ns hl
  refine ⟨[], H, [dScript ns], [], .val (.bool true), w', rfl, .cons (.inr (.inr (.inl ⟨a, ns, rfl, rfl, hS⟩))) .nil, fun _ _ e => e, ⟨rfl, .nil, fun i a fs h => by simp at h⟩, e, fun v A' F' H' _ _ r => ?_⟩
  rcases r with r | ⟨_, _, e, _⟩ | ⟨_, _, e, _⟩ | ⟨_, _, e, _⟩
  · cases r; rfl
  · cases e
  · cases e
  · cases e
end Rx

set_option Elab.async false
set_option linter.all false
set_option maxRecDepth 100000
set_option maxHeartbeats 1000000
set_option autoImplicit false
namespace Rx
open PySem L2
theorem Up.mono {F F' : Hp} {is : List Nat} {σ σ' : St} {r r' : Env} (u : Up F is σ r σ' r') (s : Same F F') : Up F' is σ r σ' r' :=
  ⟨u.l1, u.l2, fun i => by
    rcases u.at_ i with h | ⟨h1, v, d, h2, h3, h4⟩
    · exact .inl h
    · exact .inr ⟨h1, v, d, h2, h3, h4.mono s⟩⟩
section
variable {G : Cg} {src src2 : Exs} {tg tg2 : Tg} {elt : Ex} {own own2 : List Nat} {σ : St} {H : Hp} {Q : VK}
/-- two fors: the first one's items, for each the second one's -/
theorem lc2_read (hsl : ∀ i ∈ slotsT tg, i ∈ own) (hsl2 : ∀ i ∈ slotsT tg2, i ∈ own2) (h2o : ∀ i ∈ own2, i ∈ own) (h : tF G (dComp2 src tg src2 tg2 elt own own2) σ H Q) :
    tLc2 (tI G false src) (tG tg) (tCond (G.blk own) none) (tI (G.blk own) true src2) (tG tg2) (tCond (G.blk own) none) (tD (G.blk own) elt) own own2 σ H Q := by
  obtain ⟨A, F, r, w, x, w', rel, e, post⟩ := h
  unfold dComp2 at e
  cases h1 : src G.c r w with
  | none => rw [h1] at e; cases e
  | some pr =>
    obtain ⟨x1, w1⟩ := pr
    rw [h1] at e
    cases x1 with
    | exc y => cases e; exact ⟨A, F, r, w, .exc y, _, rel, h1, post⟩
    | vals xs =>
      simp only at e
      cases h2 : compGo G.c (wipeR r own) tg none (inner src2 tg2 elt own2) xs w1 with
      | none => rw [h2] at e; cases e
      | some pr =>
        obtain ⟨ys, w2⟩ := pr
        rw [h2] at e
        simp only at e
        split at e
        · rename_i hlen
          cases e
          refine ⟨A, F, r, w, .vals xs, w1, rel, h1, fun J A1 F1 H1 s1 o1 hit => fun Dd hD => ?_⟩
          rw [if_neg (by decide)] at hit
          have fD : F1 Dd = none := s1.fh.free hD
          refine ⟨fun i m Hc => m = xs.length - i ∧ i ≤ xs.length ∧ ∃ Ac Fc wc acc dacc rest, Step A1 F1 H1 Ac Fc Hc ∧ Omg G.C Ac Fc Hc wc ∧ Hc Dd = some (.lst acc) ∧ Fc Dd = none ∧ RpAll Fc acc dacc ∧ compGo G.c (wipeR r own) tg none (inner src2 tg2 elt own2) (xs.drop i) wc = some (rest, w') ∧ dacc ++ rest = ys,
            ⟨xs.length, by simp, Nat.zero_le _, A1, F1, w1, [], [], ys, .newO s1.fh hD, o1.new (.newO s1.fh hD) (keep_new hD), upd_same, fD, .nil, by rw [List.drop_zero]; exact h2, by simp⟩, ?_⟩
          rintro i m Hc ⟨rfl, hi, Ac, Fc, wc, acc, dacc, rest, sc, oc, hDc, fDc, rc, gc, ec⟩
          by_cases hlt : i < xs.length
          · have hdrop : xs.drop i = xs[i] :: xs.drop (i + 1) := List.drop_eq_getElem_cons hlt
            rw [hdrop] at gc
            unfold compGo at gc
            cases hb : bindT tg xs[i] (wipeR r own) with
            | none => rw [hb] at gc; cases gc
            | some r1 =>
              rw [hb] at gc
              simp only at gc
              refine .inr ⟨hit.go Ac Fc Hc i sc hlt, fun H' => (i + 1 ≤ xs.length ∧ ∃ Ac Fc wc acc dacc rest, Step A1 F1 H1 Ac Fc H' ∧ Omg G.C Ac Fc H' wc ∧ H' Dd = some (.lst acc) ∧ Fc Dd = none ∧ RpAll Fc acc dacc ∧ compGo G.c (wipeR r own) tg none (inner src2 tg2 elt own2) (xs.drop (i + 1)) wc = some (rest, w') ∧ dacc ++ rest = ys), fun H' hn => ⟨xs.length - (i + 1), by omega, rfl, hn⟩, fun v H3 hy => ?_⟩
              obtain ⟨F3, d, s3, k3, ed, rv⟩ := hit.yld Ac Fc Hc i v H3 sc hlt hy
              have : d = xs[i] := by rw [List.getElem?_eq_getElem hlt] at ed; exact (Option.some.inj ed).symm
              subst this
              have sc3 := sc.trans s3
              have o3 := oc.new s3 k3
              have rel3 := ((rel.step (s1.trans sc3) o3).wipeM own)
              refine ⟨F3, xs[i], wipeR r own, r1, rv, s3.fh, rel3.len, hb, fun σ2 u2 => ⟨by rw [u2.wipe hsl, wipe_wipe], ?_⟩⟩
              have hD3 : H3 Dd = some (.lst acc) := k3 _ _ hDc
              have fD3 : F3 Dd = none := by rw [s3.old _ _ hDc]; exact fDc
              show tI (G.blk own) true src2 σ2 H3 _
              -- what the inner for gives
              cases hs2 : src2 G.c r1 wc with
              | none => rw [show inner src2 tg2 elt own2 G.c r1 wc = none by unfold inner; rw [hs2]] at gc; cases gc
              | some pr2 =>
                obtain ⟨x2, w4⟩ := pr2
                cases x2 with
                | exc y => rw [show inner src2 tg2 elt own2 G.c r1 wc = none by unfold inner; rw [hs2]] at gc; cases gc
                | vals xs2 =>
                  have hin : inner src2 tg2 elt own2 G.c r1 wc = compGo G.c (wipeR r1 own2) tg2 none (one elt) xs2 w4 := by unfold inner; rw [hs2]
                  rw [hin] at gc
                  cases hc2 : compGo G.c (wipeR r1 own2) tg2 none (one elt) xs2 w4 with
                  | none => rw [hc2] at gc; cases gc
                  | some pr3 =>
                    obtain ⟨ys1, w5⟩ := pr3
                    rw [hc2] at gc
                    simp only at gc
                    rw [Option.map_eq_some_iff] at gc
                    obtain ⟨⟨zs, w6⟩, gc1, gc2⟩ := gc
                    simp only [Prod.mk.injEq] at gc2
                    obtain ⟨hr, hw⟩ := gc2
                    subst hw
                    have rel4 : Rel G.K G.C (mOut G.M own) Ac F3 H3 σ2 r1 wc := u2.rel rel3 fun j hj => mOut_not (hsl j hj)
                    refine ⟨Ac, F3, r1, wc, .vals xs2, w4, rel4, hs2, fun J1 A4 F4 H4 s4 o4 hit1 => ?_⟩
                    rw [if_pos rfl] at hit1
                    have hD4 : H4 Dd = some (.lst acc) := s4.hh _ _ hD3 rfl
                    have fD4 : F4 Dd = none := by rw [s4.old _ _ hD3]; exact fD3
                    refine ⟨fun j k Hc => k = xs2.length - j ∧ j ≤ xs2.length ∧ ∃ Ac Fc wc acc dacc rest1, Step A1 F1 H1 Ac Fc Hc ∧ Same F4 Fc ∧ Omg G.C Ac Fc Hc wc ∧ Hc Dd = some (.lst acc) ∧ Fc Dd = none ∧ RpAll Fc acc dacc ∧ compGo G.c (wipeR r1 own2) tg2 none (one elt) (xs2.drop j) wc = some (rest1, w5) ∧ dacc ++ rest1 ++ zs = ys,
                      ⟨xs2.length, by simp, Nat.zero_le _, A4, F4, w4, acc, dacc, ys1, sc3.trans s4, .refl _, o4, hD4, fD4, (rc.mono s3.ff).mono s4.ff, by rw [List.drop_zero]; exact hc2, by rw [← ec, ← hr, List.append_assoc]⟩, ?_⟩
                    rintro j k Hj ⟨rfl, hj, Aj, Fj, wj, accj, daccj, restj, sj, mj, oj, hDj, fDj, rj, gj, ej⟩
                    by_cases hlt2 : j < xs2.length
                    · have hdrop2 : xs2.drop j = xs2[j] :: xs2.drop (j + 1) := List.drop_eq_getElem_cons hlt2
                      rw [hdrop2] at gj
                      unfold compGo at gj
                      cases hb2 : bindT tg2 xs2[j] (wipeR r1 own2) with
                      | none => rw [hb2] at gj; cases gj
                      | some r2 =>
                        rw [hb2] at gj
                        simp only at gj
                        refine .inr ⟨hit1.go Fj Hj j mj sj.fh hlt2, fun H' => (j + 1 ≤ xs2.length ∧ ∃ Ac Fc wc acc dacc rest1, Step A1 F1 H1 Ac Fc H' ∧ Same F4 Fc ∧ Omg G.C Ac Fc H' wc ∧ H' Dd = some (.lst acc) ∧ Fc Dd = none ∧ RpAll Fc acc dacc ∧ compGo G.c (wipeR r1 own2) tg2 none (one elt) (xs2.drop (j + 1)) wc = some (rest1, w5) ∧ dacc ++ rest1 ++ zs = ys), fun H' hn => ⟨xs2.length - (j + 1), by omega, rfl, hn⟩, fun v2 H5 hy2 => ?_⟩
                        obtain ⟨F5, d2, s5, k5, ed2, rv2⟩ := hit1.yld Aj Fj Hj j v2 H5 mj sj.fh hlt2 hy2
                        have : d2 = xs2[j] := by rw [List.getElem?_eq_getElem hlt2] at ed2; exact (Option.some.inj ed2).symm
                        subst this
                        have sj5 := sj.trans s5
                        have o5 := oj.new s5 k5
                        have m5 : Same F3 F5 := (s4.ff.trans mj).trans s5.ff
                        have relw := ((rel.step (s1.trans sj5) o5).wipeM own)
                        have rel5 := ((u2.mono m5).rel relw fun j hj => mOut_not (hsl j hj)).wipe own2
                        refine ⟨F5, xs2[j], wipeR r1 own2, r2, rv2, s5.fh, rel5.len, hb2, fun σ3 u3 => ⟨by rw [u3.wipe hsl2, wipe_wipe], ?_⟩⟩
                        have rel6 : Rel G.K G.C (mOut G.M own) Aj F5 H5 σ3 r2 wj := u3.rel rel5 fun j hj => mOut_not (h2o j (hsl2 j hj))
                        have hD5 : H5 Dd = some (.lst accj) := k5 _ _ hDj
                        have fD5 : F5 Dd = none := by rw [s5.old _ _ hDj]; exact fDj
                        show tD (G.blk own) elt σ3 H5 _
                        cases hone : one elt G.c r2 wj with
                        | none => rw [hone] at gj; cases gj
                        | some pr4 =>
                          obtain ⟨ys2, w7⟩ := pr4
                          rw [hone] at gj
                          simp only at gj
                          rw [Option.map_eq_some_iff] at gj
                          obtain ⟨⟨zs2, w8⟩, gj1, gj2⟩ := gj
                          simp only [Prod.mk.injEq] at gj2
                          obtain ⟨hr2, hw2⟩ := gj2
                          subst hw2
                          obtain ⟨dy, rfl, hp, he⟩ := one_some hone
                          refine ⟨Aj, F5, r2, wj, .val dy, w7, rel6, he, fun y A6 F6 H6 s6 o6 r6 => ⟨accj, s6.hh _ _ hD5 rfl, ?_, by omega, A6, F6, w7, accj ++ [y], daccj ++ [dy], zs2, ?_, ?_, ?_, upd_same, ?_, ?_, gj1, ?_⟩⟩
                          · have hl : accj.length < ys.length := by
                              rw [rj.length, ← ej, ← hr2]
                              simp
                            exact Nat.lt_of_lt_of_le hl (zl hlen)
                          · exact (sj5.trans s6).write hD (by rw [s6.old _ _ hD5]; exact fD5)
                          · exact (mj.trans s5.ff).trans s6.ff
                          · exact o6.write (s6.hh _ _ hD5 rfl)
                          · rw [s6.old _ _ hD5]; exact fD5
                          · exact ((rj.mono s5.ff).mono s6.ff).append (.cons (r6.plain hp) .nil)
                          · rw [← ej, ← hr2]; simp
                    · have hj' : j = xs2.length := by omega
                      subst hj'
                      rw [List.drop_length] at gj
                      unfold compGo at gj
                      cases gj
                      refine .inl ⟨hit1.stop Fj Hj _ mj sj.fh (Nat.le_refl _), by omega, Aj, Fj, _, accj, daccj, zs, sj, oj, hDj, fDj, rj, gc1, by rw [← ej]; simp⟩
          · have hi' : i = xs.length := by omega
            subst hi'
            rw [List.drop_length] at gc
            unfold compGo at gc
            cases gc
            refine .inl ⟨hit.stop Ac Fc Hc _ sc (Nat.le_refl _), post (.ref Dd) Ac Fc Hc (s1.trans sc) oc ⟨Dd, acc, ys, rfl, rfl, s1.fresh hD, hDc, fDc, ?_⟩⟩
            rw [← ec, List.append_nil]
            exact rc
        · cases e
end
section
variable {X : Cx} {G : Cg} {tg iter tg2 iter2 elt : Expr} {de : Ex} {src src2 : Exs} {scope : Scope} {t t2 : Tg} {own : List (Str × Nat)} {own2 : List Nat} {pos : Pos}
theorem pd_comp2 (hc : X.calm = true) (hN : X.N.Nodup) (hi : PI X tg iter (tI G false src)) (ok : BlkOk X.N X.env.scope scope own) (hv : ∀ i ∈ own2, i ∈ own.map (·.2))
    (hg : ∀ (s : Shared) (H : Hp) (C : Addr) (cl : List (Str × Addr)) (fp : List Addr), PG (X.blk s H scope (compEnvC scope cl C X.env) fp) tg (tG t))
    (hi2 : ∀ (s : Shared) (H : Hp) (C : Addr) (cl : List (Str × Addr)) (fp : List Addr), PI (X.blk s H scope (compEnvC scope cl C X.env) fp) tg2 iter2 (tI (G.blk (own.map (·.2))) true src2))
    (hg2 : ∀ (s : Shared) (H : Hp) (C : Addr) (cl : List (Str × Addr)) (fp : List Addr), PG (X.blk s H scope (compEnvC scope cl C X.env) fp) tg2 (tG t2))
    (he : ∀ (s : Shared) (H : Hp) (C : Addr) (cl : List (Str × Addr)) (fp : List Addr), PE (X.blk s H scope (compEnvC scope cl C X.env) fp) elt (tD (G.blk (own.map (·.2))) de))
    (hs : ∀ x, foldedSetIterable iter X.env x = pure x) (hs2 : ∀ env x, foldedSetIterable iter2 env x = pure x) (hsl : ∀ i ∈ slotsT t, i ∈ own.map (·.2)) (hsl2 : ∀ i ∈ slotsT t2, i ∈ own2) :
    PE X (.ListComp elt [⟨tg, iter, [], 0⟩, ⟨tg2, iter2, [], 0⟩] scope pos) (tD G (dComp2 src t src2 t2 de (own.map (·.2)) own2)) :=
  peI (pe_lc2 hc hN hi ok hv hg (fun _ _ _ _ _ => pts_cond (.inl ⟨rfl, rfl⟩)) hi2 hg2 (fun _ _ _ _ _ => pts_cond (.inl ⟨rfl, rfl⟩)) he hs hs2) fun σ H Q h => lc2_read hsl hsl2 hv (tD_tF h)
end
end Rx

set_option Elab.async false
set_option linter.all false
set_option maxRecDepth 100000
set_option maxHeartbeats 1000000
set_option autoImplicit false
namespace Rx
open PySem L2
theorem rp_ints {F : Hp} : ∀ {ns : List Int} {vs : List V}, RpAll F vs (ns.map .int) → vs = ns.map V.int
  | [], _, h => by cases h; rfl
  | n :: ns, _, h => by
    cases h with
    | cons a t => cases a; rw [rp_ints t]; rfl
theorem flat_ints (ns : List Int) : (ns.map V.int).all flatV = true := by
  rw [List.all_map]
  exact List.all_eq_true.mpr fun _ _ => rfl
section
variable {X : Cx}
theorem mt_tupIx : MtR X "tuple.index" (fun x xs H Q => ∃ (p : Addr) (ns : List Int) (i : Int) (j : Nat), x = .ref p ∧ xs = [.int i] ∧ SqT X.K H p (ns.map V.int) ∧ ns.findIdx? (· == i) = some j ∧ Q (.int (j : Nat)) H) := by
  rintro pins s σ H x xs v us Q I rx rs ⟨p, ns, i, j, rfl, rfl, sq, fi, q⟩
  cases rx
  obtain ⟨u, rfl, t, rfl⟩ := vals1 rs
  obtain ⟨its, r, ⟨⟨cls, dd, dt, sl⟩, ho, hc, n, hd⟩, hz⟩ := I.tuple sq
  simp only at hc hd
  subst hc hd
  obtain ⟨hj, hit, hno⟩ := List.findIdx?_eq_some_iff_getElem.mp fi
  have size : its.toArray.size = ns.length := by rw [List.size_toArray, ← r.length, List.length_map]
  have item : ∀ (m : Nat) (hm : m < its.toArray.size), ∃ t', its.toArray[m] = Value.int (ns[m]'(by omega)) t' := fun m hm => by
    obtain ⟨y, hy, t', ht⟩ := r.get (i := m) (x := .int (ns[m]'(by omega))) (by simp)
    refine ⟨t', ?_⟩
    rw [← ht, ← (List.getElem?_eq_some_iff.mp hy).2]
    simp
  have hj' : j < its.toArray.size := by omega
  refine call_meets PySem.F.slot_tuple_index ⟨_, ho, rfl⟩ PySem.F.entry_tuple_index (PySem.F.args_tuple_index_2 _ _) (TI.tuple_indexAt p its.toArray n dd sl (.int i t) (eqU (.int i)) j hj' ?_ ?_)
    ⟨ho, fun y hy => mem_eqAt (x := .int i) ⟨t, rfl⟩ rfl r (flat_ints ns) y (by simpa using hy), ⟨.int (j : Nat), H, I.tok _, ⟨_, rfl⟩, q⟩⟩
  · obtain ⟨t', e⟩ := item j hj'
    rw [e]
    have : (ns[j] == i) = true := hit
    show eqU (.int i) (Value.int ns[j] t') = true
    simpa [eqU, eqV] using this
  · intro m hm hmj
    obtain ⟨t', e⟩ := item m hm
    rw [e]
    have : ¬ (ns[m] == i) = true := hno m hmj
    show eqU (.int i) (Value.int (ns[m]'(by omega)) t') = false
    simpa [eqU, eqV] using this
/-- a method of a tuple that is known to be plain -/
theorem pe_tm {o e : Expr} {to : TE} {t : TA} {name : Str} {apos cpos : Pos} {id : String} {r : V → List V → Hp → VK → Prop} (slot : Slot "tuple" name id) (hty : typeOf (.builtin id) = pure (.type "method_descriptor")) (hm : MtR X id r) (ho : PE X o to) (ha : PA X [e] t)
    (hbase : attributeBase o name X.env (eval o X.env) = eval o X.env)
    (hfew : ((backTo cpos (starEach [e] X.env)).all (fun x => !x.1) && (backToKw cpos (keywordEach [] X.env)).all (fun x => x.1.isSome) && decide ([e].length + ([] : List Keyword).length + (if ([] : List Keyword).isEmpty then 0 else 1) < 30)) = true)
    (hline : (apos.endLine == cpos.line) = true) (hs : starEach [e] X.env = (false, eval e X.env) :: starEach [] X.env) :
    PE X (.Call (.Attribute o name apos) [e] [] cpos) (fun σ H Q => to σ H fun x H1 => (∃ (a : Addr) (ob : Obj) (xs : List V), x = .ref a ∧ H1 a = some (.frz ob (.tup xs)) ∧ ob.cls = .type "tuple" ∧ ob.dict = none) ∧ t σ H1 fun xs H2 => r x xs H2 Q) := by
  refine ⟨fun pins s σ H Q I h => wpAny_Call_method_late hbase hfew hline rfl (thn (ho.run pins s σ H _ I h) ?_)⟩
  rintro v s1 ⟨x, H1, I1, r1, ⟨a, ob, xs, rfl, hH, hc, hd⟩, q1⟩
  cases r1
  have there : s1.heap.get? a = some ob := (I1.hok a _ hH).1
  refine ⟨"tuple", id, PySem.F.plainAttrs_tuple, slot, hty, ⟨ob, there, hc⟩, fun b eb => ⟨ob, by cases eb; exact there, hd⟩, ?_⟩
  have run := ha.run cpos pins s1 σ H1 _ I1 q1
  rw [hs] at run ⊢
  exact Calls.callWith_builtin rfl (Calls.evalArgs_plain (thn run fun us s2 ⟨vs, H2, I2, r2, q2⟩ => hm pins s2 σ H2 (.ref a) vs (.ref a) us Q I2 rfl r2 q2))
variable {G : Cg} {a b : Expr} {da db : Ex} {pos apos ps : Pos}
/-- what stands ahead of a method's argument -/
theorem meth_of {p : Pr} {ok : D → Bool} {σ : St} {H : Hp} {Q : VK} (h : tD G (dMeth p ok da db) σ H Q) :
    tO G da σ H fun x H1 => ∃ A F w d, Same F H1 ∧ Omg G.C A F H1 w ∧ Ro G.K A F H1 x d ∧ ok d = true ∧ tO G db σ H1 fun y H2 => ∃ A' F' w' e v, Step A F H1 A' F' H2 ∧ Omg G.C A' F' H2 w' ∧ Ro G.K A' F' H2 x d ∧ Ro G.K A' F' H2 y e ∧ prim p [d, e] = some v ∧ Fin G A' F' H2 w' v Q := by
  obtain ⟨A, F, r, w, x, w', rel, e, post⟩ := h
  unfold dMeth at e
  cases h1 : da G.c r w with
  | none => rw [h1] at e; cases e
  | some pr =>
    obtain ⟨x1, w1⟩ := pr
    rw [h1] at e
    cases x1 with
    | exc y => cases e; exact ⟨A, F, r, w, .exc y, _, rel, h1, post⟩
    | val d =>
      simp only at e
      split at e
      · rename_i hok
        refine ⟨A, F, r, w, .val d, w1, rel, h1, fun v A1 F1 H1 s1 o1 r1 => ⟨A1, F1, w1, d, s1.fh, o1, r1, hok, ?_⟩⟩
        cases h2 : db G.c r w1 with
        | none => rw [h2] at e; cases e
        | some pr =>
          obtain ⟨x2, w2⟩ := pr
          rw [h2] at e
          cases x2 with
          | exc y => cases e; exact ⟨A1, F1, r, w1, .exc y, _, rel.step s1 o1, h2, fun cls dd A2 F2 H2 s2 o2 q => post cls dd A2 F2 H2 (s1.trans s2) o2 q⟩
          | val d2 =>
            simp only at e
            rw [Option.map_eq_some_iff] at e
            obtain ⟨v3, e1, e2⟩ := e
            cases e2
            exact ⟨A1, F1, r, w1, .val d2, _, rel.step s1 o1, h2, fun y A2 F2 H2 s2 o2 r2 => ⟨A2, F2, _, d2, v3, s2, o2, r1.step s2, r2, e1, fun u A3 F3 H3 s3 o3 r3 => post u A3 F3 H3 ((s1.trans s2).trans s3) o3 r3⟩⟩
      · cases e
section
variable (hK : G.K = X.K) (hline : (apos.endLine == pos.line) = true) (hs : starEach [b] X.env = (false, eval b X.env) :: starEach [] X.env)
    (hfew : ((backTo pos (starEach [b] X.env)).all (fun x => !x.1) && (backToKw pos (keywordEach [] X.env)).all (fun x => x.1.isSome) && decide ([b].length + ([] : List Keyword).length + (if ([] : List Keyword).isEmpty then 0 else 1) < 30)) = true)
include hK hline hs hfew
theorem pd_index (hbase : attributeBase a "index" X.env (eval a X.env) = eval a X.env) (ha : PE X a (tO G da)) (hb : PE X b (tO G db)) :
    PE X (.Call (.Attribute a "index" apos) [b] [] pos) (tD G (dMeth .index isX da db)) := by
  refine peI (pe_tm PySem.F.slot_tuple_index PySem.F.type_tuple_index mt_tupIx ha (pa_cons hb pa_nil hs) hbase hfew hline hs) fun σ H Q q => tO_imp (meth_of q) fun x H1 ⟨A, F, w, d, s, o, ro, ok, k⟩ => ?_
  unfold isX at ok
  split at ok
  · rename_i xs
    obtain ⟨a1, ns, rfl, rfl, ob, hf, hc, hd⟩ := ro.xt
    refine ⟨⟨a1, ob, _, rfl, s _ _ hf, hc, hd⟩, tO_imp k fun y H2 ⟨A2, F2, w2, e, v, s2, o2, ro2, ry, ep, fn⟩ => ?_⟩
    replace ep : indexP (.dict [(.bool true, .tuple (ns.map .int))]) e = some v := ep
    cases e with
    | int i =>
      replace ep : ((intsOf (ns.map PyData.int)).bind fun ns => (ns.findIdx? (· == i)).map fun j => PyData.int (j : Nat)) = some v := ep
      rw [intsOf_map, Option.bind_some, Option.map_eq_some_iff] at ep
      obtain ⟨j, ej, rfl⟩ := ep
      exact ⟨a1, ns, i, j, rfl, by rw [ry.int], .inl (.inr ⟨ob, s2.fh _ _ (s2.ff _ _ hf)⟩), ej, fn.same s2.fh o2 (.inl (.int _))⟩
    | _ => cases ep
  · cases ok
theorem pd_count (hbase : attributeBase a "count" X.env (eval a X.env) = eval a X.env) (ha : PE X a (tO G da)) (hb : PE X b (tO G db)) :
    PE X (.Call (.Attribute a "count" apos) [b] [] pos) (tD G (dMeth .count isLst da db)) := by
  refine peI (pe_bm PySem.F.plainAttrs_list PySem.F.slot_list_count PySem.F.type_list_count mt_lcount ha (pa_cons hb pa_nil hs) hbase hfew hline hs rfl) fun σ H Q q => tO_imp (meth_of q) fun x H1 ⟨A, F, w, d, s, o, ro, ok, k⟩ => ?_
  cases d with
  | list ds =>
    obtain ⟨a1, vs, rfl, hl, rp⟩ := ro.lst s
    refine ⟨.inl ⟨rfl, _, .inl (.inl hl)⟩, tO_imp k fun y H2 ⟨A2, F2, w2, e, v, s2, o2, ro2, ry, ep, fn⟩ => ?_⟩
    replace ep : countP (.list ds) e = some v := ep
    cases e with
    | int i =>
      replace ep : ((intsOf ds).map fun ns => PyData.int ((ns.filter (· == i)).length : Nat)) = some v := ep
      rw [Option.map_eq_some_iff] at ep
      obtain ⟨ns, ei, rfl⟩ := ep
      have ed := intsOf_some ei
      subst ed
      obtain ⟨a2, vs2, e2, hl2, rp2⟩ := ro2.lst s2.fh
      cases e2
      have := rp_ints rp2
      subst this
      refine ⟨a1, ns, i, rfl, by rw [ry.int], .inl (.inl hl2), ?_⟩
      have hcnt : ns.count i = (ns.filter (· == i)).length := by rw [List.count, List.countP_eq_length_filter]
      rw [hcnt]
      exact fn.same s2.fh o2 (.inl (.int _))
    | _ => cases ep
  | _ => cases ok
end
/-! ### max of a list, sum of a tuple, tuple(list) -/
theorem maxI_ok : ∀ {ns : List Int} {m : Int}, maxI ns = some m → m ∈ ns ∧ ∀ y ∈ ns, y ≤ m
  | [], _, h => by cases h
  | [x], m, h => by cases h; exact ⟨.head _, fun y hy => by simp at hy; omega⟩
  | x :: z :: r, m, h => by
    unfold maxI at h
    rw [Option.map_eq_some_iff] at h
    obtain ⟨k, h1, h2⟩ := h
    obtain ⟨i1, i2⟩ := maxI_ok h1
    split at h2
    · subst h2
      exact ⟨.tail _ i1, fun y hy => by
        rcases List.mem_cons.mp hy with rfl | hy
        · omega
        · exact i2 y hy⟩
    · subst h2
      exact ⟨.head _, fun y hy => by
        rcases List.mem_cons.mp hy with rfl | hy
        · omega
        · have := i2 y hy; omega⟩
theorem fs_max1 (hc : X.calm = true) : FnS X G (.builtin "max") .max1 := ⟨_, cr_max hc, fun Q vs H k => by
  obtain ⟨A, F, w, v, d1, d, rfl, s, o, r, e, f⟩ := p1_args (f := max1P) rfl k
  cases d1 with
  | list ds =>
    replace e : ((intsOf ds).bind fun ns => (maxI ns).map PyData.int) = some d := e
    rw [Option.bind_eq_some_iff] at e
    obtain ⟨ns, e1, e2⟩ := e
    rw [Option.map_eq_some_iff] at e2
    obtain ⟨m, e2, rfl⟩ := e2
    have ed := intsOf_some e1
    subst ed
    obtain ⟨a, vs, rfl, hl, rp⟩ := r.lst s
    have := rp_ints rp
    subst this
    obtain ⟨i1, i2⟩ := maxI_ok e2
    refine ⟨a, ns, rfl, ?_, List.length_pos_of_mem i1, fun m' h1 h2 => ?_⟩
    · exact .inl (.inl hl)
    · have : m' = m := by have := i2 m' h1; have := h2 m i1; omega
      subst this
      exact f.same s o (.inl (.int _))
  | _ => cases e⟩
theorem call_tupX : CallR X (.type "tuple") (fun xs H Q => ∃ (p : Addr) (ys : List V), xs = [.ref p] ∧ SqL X.K H p ys ∧ ∀ (l : Addr) (ob : Obj), H l = none → ob.cls = .type "tuple" → ob.dict = none → Q (.ref l) (upd H l (.frz ob (.tup ys)))) := by
  rintro pins s σ H xs us Q I r ⟨p, ys, rfl, hq, q⟩
  obtain ⟨u, rfl, rx⟩ := vals1 r
  cases rx
  obtain ⟨its, rv, pl, hz⟩ := I.list hq
  refine call_tuple_list pl.isList (fun h2 keep => ?_) (by rw [List.size_toArray, ← rv.length]; exact hz)
  have J : Inv X pins σ H { s with heap := h2 } := I.kept (t' := s.toks) keep
  have J2 : Inv X pins σ (upd H h2.objs.size (.frz { cls := .type "tuple", data := .seq its.toArray } (.tup ys))) { s with heap := h2.push { cls := .type "tuple", data := .seq its.toArray } } :=
    J.laid (t' := s.toks) (fun b o e => Heap.get?_push_of_some _ e) (Nat.le_refl _) ⟨Heap.get?_push_size _ rfl, hz, its, rv, PyProof.Rows.IsTup.new _ _⟩
  exact ⟨.ref h2.objs.size, _, J2, rfl, q _ _ (J.hok.fresh (Nat.le_refl _)) rfl rfl⟩
theorem fs_tupX : FnS X G (.type "tuple") .tuplex := ⟨_, call_tupX, fun Q vs H k => by
  obtain ⟨A, F, w, v, d1, d, rfl, s, o, r, e, f⟩ := p1_args (f := tupxP) rfl k
  cases d1 with
  | list ds =>
    replace e : (intsOf ds).map dX = some d := e
    rw [Option.map_eq_some_iff] at e
    obtain ⟨ns, e1, rfl⟩ := e
    have ed := intsOf_some e1
    subst ed
    obtain ⟨a, vs, rfl, hl, rp⟩ := r.lst s
    have := rp_ints rp
    subst this
    refine ⟨a, _, rfl, .inl (.inl hl), fun l ob hn hc hd => ?_⟩
    exact f (.ref l) A (upd F l (.frz ob (.tup (ns.map V.int)))) _ (.new s hn) (o.new (.new s hn) (keep_new hn)) (.inr (.inr (.inr ⟨l, ns, rfl, rfl, ob, upd_same, hc, hd⟩)))
  | _ => cases e⟩
theorem pd_tuplex (hst : starEach [a] X.env = (false, eval a X.env) :: starEach [] X.env) (hg : Gl X "tuple") (hm : X.mg "tuple" = none) (ha : PE X a (tO G da)) : PE X (.Call (.Name "tuple" ps) [a] [] pos) (tD G (dPrim .tuplex (dCons da dNil))) :=
  pd_fnT fs_tupX hg hm (by decide +kernel) (pao_cons ha pao_nil hst) (by decide) (by decide) hst rfl
theorem pd_max1 (hst : starEach [a] X.env = (false, eval a X.env) :: starEach [] X.env) (hc : X.calm = true) (hg : Gl X "max") (hm : X.mg "max" = none) (ha : PE X a (tO G da)) : PE X (.Call (.Name "max" ps) [a] [] pos) (tD G (dPrim .max1 (dCons da dNil))) :=
  pd_fnB (fs_max1 hc) hg hm (by decide +kernel) (pao_cons ha pao_nil hst) (by decide) (by decide) hst rfl
/-! ### append and extend, the place ahead -/
theorem psd_appendE {i : Nat} {x : Str} {p2 cpos : Pos} {e : Expr} {de : Ex} (hN : X.N[i]? = some x) (hv : Vis X.env.scope x) (hd : (x == ("__debug__" : Str)) = false) (hcd : (x == ("__classdict__" : Str)) = false) (hM : G.M.contains i = true) (he : PE X e (tD G de)) (hst : starEach [e] X.env = (false, eval e X.env) :: starEach [] X.env) (hline : (apos.endLine == cpos.line) = true) (hs : swapsWith (.Call (.Attribute (.Name x p2) "append" apos) [e] [] cpos) none pos.line X.env = pure false)
    (hfew : ((backTo cpos (starEach [e] X.env)).all (fun x => !x.1) && (backToKw cpos (keywordEach [] X.env)).all (fun x => x.1.isSome) && decide ([e].length + ([] : List Keyword).length + (if ([] : List Keyword).isEmpty then 0 else 1) < 30)) = true) :
    PS X (.Expr (.Call (.Attribute (.Name x p2) "append" apos) [e] [] cpos) pos) (tS G (sAppend i de)) := psd_append hN hv hd hcd hM he hst hline hs hfew
theorem psd_extendE {i : Nat} {x : Str} {p2 cpos : Pos} {e : Expr} {de : Ex} (hN : X.N[i]? = some x) (hv : Vis X.env.scope x) (hd : (x == ("__debug__" : Str)) = false) (hcd : (x == ("__classdict__" : Str)) = false) (hM : G.M.contains i = true) (he : PE X e (tO G de)) (hst : starEach [e] X.env = (false, eval e X.env) :: starEach [] X.env) (hline : (apos.endLine == cpos.line) = true) (hs : swapsWith (.Call (.Attribute (.Name x p2) "extend" apos) [e] [] cpos) none pos.line X.env = pure false)
    (hfew : ((backTo cpos (starEach [e] X.env)).all (fun x => !x.1) && (backToKw cpos (keywordEach [] X.env)).all (fun x => x.1.isSome) && decide ([e].length + ([] : List Keyword).length + (if ([] : List Keyword).isEmpty then 0 else 1) < 30)) = true) :
    PS X (.Expr (.Call (.Attribute (.Name x p2) "extend" apos) [e] [] cpos) pos) (tS G (sExtend i de)) := psd_extend hN hv hd hcd hM he hst hline hs hfew
end
end Rx

set_option Elab.async false
set_option linter.all false
set_option maxRecDepth 100000
set_option maxHeartbeats 1000000
set_option autoImplicit false
namespace Rx
open PySem L2
/-! ### no word -/
section
variable {X : Cx} {G : Cg} {st : Stmt} {sts : List Stmt}
theorem psd_stuck : PS X st (tS G sStuck) := ⟨fun pins s σ H Dd I q => by
  obtain ⟨A, F, r, w, x, w', rs, e, post⟩ := q
  cases e⟩
theorem pssd_stuck : PSs X sts (tS G sStuck) := ⟨fun pins s σ H Dd I q => by
  obtain ⟨A, F, r, w, x, w', rs, e, post⟩ := q
  cases e⟩
end
/-! ### slot i holds the exception a -/
def Pin (i : Nat) (a : Addr) (σ : St) : Prop := σ[i]? = some (some (.ref a))
def tPn (i : Nat) (a : Addr) (t : TE) : TE := fun σ H Q => Pin i a σ ∧ t σ H Q
def tPs (i : Nat) (a : Addr) (t : TA) : TA := fun σ H Q => Pin i a σ ∧ t σ H Q
def tSp (i : Nat) (a : Addr) (G : Cg) (s : Sx) : TS := fun Dd σ H => Pin i a σ ∧ tS G s { Dd with nx := fun σ' H' => Pin i a σ' → Dd.nx σ' H' } σ H
theorem Pin.eq {i : Nat} {a : Addr} {σ : St} (h : Pin i a σ) : σ = σ.set i (some (.ref a)) := by
  refine List.ext_getElem? fun j => ?_
  by_cases hj : i = j
  · subst hj
    obtain ⟨hl, _⟩ := List.getElem?_eq_some_iff.mp h
    rw [List.getElem?_set_self hl]
    exact h
  · rw [List.getElem?_set_ne hj]
theorem Pin.set {i j : Nat} {a : Addr} {σ : St} {u : Option V} (h : Pin i a σ) (hj : j ≠ i) : Pin i a (σ.set j u) := by
  unfold Pin
  rw [List.getElem?_set_ne hj]
  exact h
section
variable {X : Cx} {G : Cg} {i : Nat} {a : Addr} {e e1 e2 : Expr} {es : List Expr} {st : Stmt} {rest : List Stmt} {d1 d2 : Sx} {de da db : Ex} {des : Exs} {pos : Pos}
theorem pp_of (h : PE X e (tD G de)) : PE X e (tPn i a (tD G de)) := peI h fun _ _ _ q => q.2
theorem psp_one (h : PS X st (tSp i a G d1)) : PSs X [st] (tSp i a G d1) := pss_one h
theorem psp_cons (h1 : PS X st (tSp i a G d1)) (h2 : PSs X rest (tSp i a G d2)) : PSs X (st :: rest) (tSp i a G (sSeq d1 d2)) :=
  pssI (pss_cons h1 h2) fun Dd σ H ⟨p, A, F, r, w, x, w', rs, e, post⟩ => by
    unfold sSeq at e
    cases h1 : d1 G.c r w with
    | none => rw [h1] at e; cases e
    | some pr =>
      obtain ⟨x1, w1⟩ := pr
      rw [h1] at e
      refine ⟨p, A, F, r, w, x1, w1, rs, h1, ?_⟩
      cases x1 with
      | ret d => cases e; exact post
      | exc y r1 => cases e; exact post
      | next r1 => exact fun σ1 A1 F1 H1 rs1 k1 p1 => ⟨p1, A1, F1, r1, w1, x, w', rs1, e, post.mono k1⟩
theorem psp_set {j : Nat} {x : Str} {p2 : Pos} (hN : X.N.Nodup) (hi : X.N[j]? = some x) (hx : Loc X.env.scope x) (he : PE X e (tPn i a (tD G de))) (hs : swapsWith e (some (.Name x p2)) pos.line X.env = pure false) (hf : X.fn x = true ∨ X.env.scope.names.lookup x = some .local) (hM : G.M.contains j = false) (hj : j ≠ i) :
    PS X (.Assign [.Name x p2] e pos) (tSp i a G (sAsg j de)) :=
  psI (ps_set hN hi hx he hs hf) fun Dd σ H ⟨p, q⟩ => ⟨p, tD_imp (asgD hM q) fun v H1 h => h (p.set hj)⟩
theorem pps_nil : PA X [] (tPs i a (tDs G dNil)) := paI pa_nil fun _ _ _ h => tDs_nil h.2
theorem pps_cons (he : PE X e (tPn i a (tD G de))) (hs : PA X es (tPs i a (tDs G des))) (hst : starEach (e :: es) X.env = (false, eval e X.env) :: starEach es X.env) : PA X (e :: es) (tPs i a (tDs G (dCons de des))) :=
  paI (pa_cons he hs hst) fun _ _ _ ⟨p, h⟩ => ⟨p, tD_imp (tDs_cons h) fun _ _ q => ⟨p, q⟩⟩
theorem pp_lst (h : PA X es (tPs i a (tDs G des))) : PE X (.List es pos) (tPn i a (tD G (dPrim .lst des))) :=
  peI (pe_lst h) fun σ H Q ⟨p, q⟩ => ⟨p, tDs_imp (prim_argsD q) fun vs H1 ⟨A, F, w, ds, d, s, o, ro, e, f⟩ => by
    replace e : lstP ds = some d := e
    unfold lstP at e
    split at e
    · rename_i hz; cases e
      simp only [Bool.and_eq_true, decide_eq_true_eq] at hz
      have r := ro.plain hz.1
      exact ⟨by rw [r.length]; exact zl hz.2, fun p hp => f.lst s o hp r⟩
    · cases e⟩
theorem pp_bin {op : Operator} {p : Pr} {r : R2} (ho : OpR X (binaryOp op) r) (hp : ∀ Q x y H, Kp G p Q [x, y] H → r x y H Q) (ha : PE X e1 (tO G da)) (hb : PE X e2 (tPn i a (tD G db))) : PE X (.BinOp e1 op e2 pos) (tPn i a (tD G (dPrim p (dCons da (dCons db dNil))))) := by
  have hb2 : PE X e2 (tPn i a (tO G db)) := peI hb fun σ H Q ⟨p, q⟩ => ⟨p, by
    obtain ⟨A, F, r, w, x, w', h1, h2, h3⟩ := q
    refine ⟨A, F, r, w, x, w', h1, h2, ?_⟩
    cases x with
    | val d => exact fun v A' F' H' s o q => h3 v A' F' H' s o (.inl q)
    | exc x => exact h3⟩
  exact peI (pe_op ho ha hb2) fun σ H Q ⟨p0, h⟩ => tO_imp (args2 (prim_args h)) fun x H1 q => ⟨p0, tO_imp q fun y H2 k => hp Q x y H2 k⟩
theorem pp_add (ha : PE X e1 (tO G da)) (hb : PE X e2 (tPn i a (tD G db))) : PE X (.BinOp e1 .Add e2 pos) (tPn i a (tD G (dPrim .add (dCons da (dCons db dNil))))) := by
  refine pp_bin (((op_add.or op_add_str).or op_catA).or op_cat) (fun Q x y H ⟨A, F, w, ds, d, s, o, ro, e, f⟩ => ?_) ha hb
  obtain ⟨d1, d2, rfl, r1, r2⟩ := RoAll2 ro
  replace e : addP d1 d2 = some d := e
  unfold addP at e
  split at e
  · cases e
    exact .inl (.inl (.inl ⟨_, _, r1.int, r2.int, f.same s o (.inl (.int _))⟩))
  · split at e
    · rename_i hz; cases e
      exact .inl (.inl (.inr ⟨_, _, r1.str, r2.str, zl hz, f.same s o (.inl (.str _))⟩))
    · cases e
  · split at e
    · rename_i hz; cases e
      obtain ⟨a1, v1, rfl, f1, q1⟩ := r1.tup
      obtain ⟨a2, v2, rfl, f2, q2⟩ := r2.tup
      refine .inl (.inr ⟨a1, a2, v1, v2, rfl, rfl, .inl (.inl (s _ _ f1)), .inl (.inl (s _ _ f2)), by rw [q1.length, q2.length]; exact zl hz, fun z => ?_, fun _ z => ?_, fun _ _ p hp => f.tup s o hp (q1.append q2)⟩)
      · subst z; cases q1; exact f.same s o (.inl (.tup f2 q2))
      · subst z; cases q2; rw [List.append_nil] at f; exact f.same s o (.inl (.tup f1 q1))
    · cases e
  · split at e
    · rename_i hz; cases e
      obtain ⟨a1, v1, rfl, f1, q1⟩ := r1.lst s
      obtain ⟨a2, v2, rfl, f2, q2⟩ := r2.lst s
      exact .inr ⟨a1, a2, v1, v2, rfl, rfl, f1, f2, by rw [q1.length, q2.length]; exact zl hz, fun p hp => f.lst s o hp (q1.append q2)⟩
    · cases e
  · cases e
/-- isinstance(n, y): n the exception, y one of the classes -/
theorem pp_isi {oe : Obj} {pn : List (Addr × Obj)} {C : Addr} {xs : List (Nat × Str)} {x : Xn} {k2 : Nat} {n y : Str} {q1 q2 q3 q4 : Pos} (xa : XAll X.K X.mg G.ec xs) (hx : G.ec x.cls = some (.ref C)) (hz : Zc (.ref C) none oe) (hfd : ∃ vs, oe.data = .fields vs)
    (hy : xs.lookup k2 = some y) (gy : X.env.kindOf y = some .globalImplicit) (gi : X.env.kindOf "isinstance" = some .globalImplicit) (mi : X.mg "isinstance" = none)
    (hi : X.N[i]? = some n) (hv : Vis X.env.scope n) (hd : (n == ("__debug__" : Str)) = false) (hcd : (n == ("__classdict__" : Str)) = false) (dy : (y == ("__debug__" : Str)) = false) :
    PE (X.suite a ((a, oe) :: pn)) (.Call (.Name "isinstance" q1) [.Name n q2, .Name y q3] [] q4) (tPn i a (tD G (dC (.bool (subX x.cls k2))))) := by
  obtain ⟨Cy, _, b2, _⟩ := xa.at_ k2 y hy
  obtain ⟨_, D, e, ed, h⟩ := xa.inv _ _ hx
  cases e
  refine peI (ptk_isi (G := G) ed hz hfd (h k2 y _ hy b2).2 hi hv hd hcd gi mi gy b2 (cv := .ref Cy) rfl (fun _ e => e) dy) fun σ H Q ⟨p, q⟩ => ⟨⟨σ, p.eq⟩, ?_⟩
  obtain ⟨A, F, r, w, x, w', rel, e, post⟩ := q
  cases e
  exact post (.bl _) A F H (.refl rel.fh) rel.om (.inl (.bl _))
end
/-! ### try, one clause whose suite goes on -/
theorem Step.base {A0 A A' : List Addr} {F0 F F' H0 H H' : Hp} (a : Step A0 F0 H0 A F H) (b : Step A0 F H0 A' F' H') : Step A0 F0 H0 A' F' H' :=
  ⟨b.ext, a.ff.trans b.ff, b.fh, b.hh, b.ins, fun p o e => (b.old p o e).trans (a.old p o e)⟩
theorem Step.self {A0 A : List Addr} {F0 F H0 H : Hp} (a : Step A0 F0 H0 A F H) : Step A0 F H0 A F H := ⟨a.ext, .refl _, a.fh, a.hh, a.ins, fun _ _ _ => rfl⟩
theorem RelS.hide {G : Cg} {A : List Addr} {F H : Hp} {σ : St} {r : Env} {w : Om} {i : Nat} {u : Option V} (rs : RelS G A F H σ r w) : RelS G A F H (σ.set i u) (r.set i none) w := by
  have old : ∀ j e, (r.set i none)[j]? = some (some e) → (σ.set i u)[j]? = σ[j]? ∧ r[j]? = some (some e) := fun j e h => by
    by_cases hj : i = j
    · subst hj
      by_cases hl : i < r.length
      · rw [List.getElem?_set_self hl] at h; cases h
      · rw [List.getElem?_eq_none (by rw [List.length_set]; omega)] at h; cases h
    · rw [List.getElem?_set_ne hj] at h
      exact ⟨List.getElem?_set_ne hj, h⟩
  refine ⟨⟨rs.rel.fh, rs.rel.om, by rw [List.length_set, List.length_set]; exact rs.rel.len, fun j e h o => ?_, fun j e h o => ?_, fun j k e f p hjk h1 h2 o1 o2 h3 => ?_⟩, rs.ent, fun j e p h o hp => ?_⟩
  · obtain ⟨e1, e2⟩ := old j e h
    rw [e1]; exact rs.rel.fro j e e2 o
  · obtain ⟨e1, e2⟩ := old j e h
    rw [e1]; exact rs.rel.own j e e2 o
  · obtain ⟨e1, e2⟩ := old j e h1
    obtain ⟨f1, f2⟩ := old k f h2
    rw [e1] at h3; rw [f1]
    exact rs.rel.dis j k e f p hjk e2 f2 o1 o2 h3
  · obtain ⟨e1, e2⟩ := old j e h
    rw [e1] at hp
    exact rs.new j e p e2 o hp
section
variable {X : Cx} {G : Cg} {body suite : List Stmt} {b0 : Stmt} {pos np pos' : Pos} {db : Sx} {dsu : Xn → Sx} {k i : Nat} {n cn : Str} {xs : List (Nat × Str)}
theorem psd_tryE (hs : X.stack = X.env :: X.outer) (hf : X.env.frame = some X.env.locals) (hN : X.N.Nodup) (tk : Takes X G.W) (hi : X.N[i]? = some n) (hln : X.env.kindOf n = some .local) (xa : XAll X.K X.mg G.ec xs) (hx : xs.lookup k = some cn) (gx : Gl X cn) (dx : (cn == ("__debug__" : Str)) = false)
    (hb : ∀ (W : WX) (F0 : Hp) (pn : List (Addr × Obj)) (xe : Value → Shared → Prop), Takes (X.tr pn xe) W → PassesOwn (model X.prog X.w) X.A X.env xe → PSs (X.tr pn xe) body (tS { G with W := W, F0 := F0 } db))
    (hsu : ∀ (a : Addr) (oe : Obj) (C : Addr) (pn : List (Addr × Obj)) (x : Xn), G.ec x.cls = some (.ref C) → Zc (.ref C) none oe → (∃ vs, oe.data = .fields vs) → PSs (X.suite a ((a, oe) :: pn)) (b0 :: suite) (tSp i a G (dsu x))) :
    PS X (.Try body [.ExceptHandler (some (.Name cn np)) (some n) (b0 :: suite) pos'] [] [] pos) (tS G (sTryE db k i dsu)) := by
  obtain ⟨C0, a1, a2, _⟩ := xa.at_ k cn hx
  refine psI (ps_try_as (c := .ref C0) (i := i) (ts := fun a cls d Dd σ H => ∃ x C, cls = .ref C ∧ d = none ∧ G.ec x.cls = some (.ref C) ∧ tSp i a G (dsu x) Dd σ H) hs hf hN hi hln ⟨gx, dx, .inl a2⟩ tk
    (tb := fun W => fun Dd σ H => ∃ F0, tS { G with W := W, F0 := F0 } db Dd σ H) (fun W pn xe t1 t2 => ⟨fun pins s σ H Dd I ⟨F0, q⟩ => (hb W F0 pn xe t1 t2).run pins s σ H Dd I q⟩)
    (fun a oe cls d pn hz hfd => ⟨fun pins s σ H Dd I ⟨x, C, e1, e2, e3, q⟩ => by subst e1 e2; exact (hsu a oe C pn x e3 hz hfd).run pins s σ H Dd I q⟩)) fun Dd σ H ⟨A, F, r, w, x, w', rs, e, post⟩ => ?_
  unfold sTryE at e
  refine ⟨F, A, F, r, w, ?_⟩
  generalize hq : db G.c r w = q at e
  cases q with
  | none => cases e
  | some pr =>
    obtain ⟨o, w1⟩ := pr
    refine ⟨o, w1, ⟨rs.rel, rs.ent.self, rs.new⟩, by first | rfl | exact hq, ?_⟩
    cases o with
    | next r1 =>
      cases e
      exact fun σ' A' F' H' q s => post σ' A' F' H' ⟨q.rel, rs.ent.base q.ent, q.new⟩ s
    | ret d =>
      cases e
      exact fun v A' F' H' q o rt => post v A' F' H' (rs.ent.base q) o rt
    | exc y r1 =>
      intro cls dd σ1 A1 F1 H1 q xr
      have ff : Same F F1 := q.ent.ff
      have rs1 : RelS G A1 F1 H1 σ1 r1 w1 := ⟨q.rel, rs.ent.base q.ent, q.new⟩
      obtain ⟨n1, D, rfl, ed, hh⟩ := xa.inv _ cls xr.1
      have hdd : dd = none := by
        rcases xr.2 with z | z
        · exact z.2
        · exact absurd z.1 n1
      subst hdd
      refine ⟨subX y.cls k, (hh k cn _ hx a2).1, fun hb a na => ?_, fun hb => ?_⟩
      · simp only [hb] at e
        simp only [if_true] at e
        split at e
        · rename_i hlt
          split at e
          · rename_i r2 w2 hsu2
            cases e
            refine ⟨y, D, rfl, rfl, xr.1, ?_, A1, F1, _, w1, _, w', rs1.hide, hsu2, ?_⟩
            · unfold Pin
              rw [List.getElem?_set_self (by rw [rs1.rel.len]; exact hlt)]
            · intro σ2 A2 F2 H2 rs2 k2 _
              exact post _ A2 F2 H2 rs2.hide (ff.trans k2)
          · cases e
        · cases e
      · simp only [hb] at e
        rw [if_neg (by decide)] at e
        cases e
        exact post _ none σ1 A1 F1 H1 rs1 xr
end
end Rx

set_option Elab.async false
set_option linter.all false
set_option maxRecDepth 100000
set_option maxHeartbeats 4000000
set_option autoImplicit false
namespace Rx
open PySem L2 PySem.Spec
open PyProof.Rows (IntsAre)
/-! ### sorted(set(xs)), xs a list of ints -/
abbrev emptySet (w : World) : Obj := { cls := .type "set", dict := none, data := .set #[] 0 (.fresh 0 0 (!w.params.followText "set-order")) }
section
variable {P : Program} {w : World} {A : Around} {E : Value → Shared → Prop} {s : Shared}
/-- what set(xs) leaves: the ints of xs -/
def SetLeft (w : World) (s : Shared) (ns : List Int) (h' : Heap) (c : Nat) : Prop :=
  SetR w h' s.heap.objs.size (fun j => decide (j ∈ ns)) c ∧ c ≤ ns.length ∧ ∀ b o, s.heap.get? b = some o → h'.get? b = some o
theorem set_ints_loop {l : Addr} {xs : Array Value} {ns : List Int} {Q : Result → Shared → Prop} (hh : A.handled = none) (hl : s.heap.IsList l xs) (hi : IntsAre xs.toList ns) (hb : ns.length + 1 < scanBound)
    (hq : ∀ h' tk c, SetLeft w s ns h' c → Q (.ok (.ret .none)) { s with heap := h', toks := tk }) :
    codeAny (model P w) A (.builtin "set.update.loop" ⟨[.ref s.heap.objs.size, .ref (s.heap.push (emptySet w)).objs.size], []⟩) Q
      { s with heap := (s.heap.push (emptySet w)).push { cls := .type "list_iterator", data := .fields #[.ref l, .int 0 0] } } := by
  have sz : xs.size = ns.length := (Array.length_toList).symm.trans hi.length
  obtain ⟨ol, hol, _⟩ := id hl
  have below : l < s.heap.objs.size := Heap.lt_size hol
  have next : (s.heap.push (emptySet w)).objs.size = s.heap.objs.size + 1 := Heap.size_push _ _
  have apart : l ≠ (s.heap.push (emptySet w)).objs.size := by rw [next]; exact Nat.ne_of_lt (Nat.lt_succ_of_lt below)
  have out : s.heap.objs.size ∉ [(s.heap.push (emptySet w)).objs.size, l] := by
    rw [next]
    intro m
    rcases List.mem_cons.mp m with z | z
    · exact absurd z (Nat.ne_of_lt (Nat.lt_succ_self _))
    · exact absurd (List.mem_singleton.mp z) (Nat.ne_of_gt below)
  have vals : ∀ (i : Nat) (v : Value), xs[i]? = some v → ∃ k t, ns[i]? = some k ∧ v = .int k t := fun i v hv => by
    have lt : i < ns.length := sz ▸ (Array.getElem?_eq_some_iff.mp hv).1
    obtain ⟨t, rfl⟩ := hi.int_at i v (by rw [Array.getElem?_toList]; exact hv)
    exact ⟨ns[i], t, List.getElem?_eq_getElem lt, by rw [List.getD_eq_getElem?_getD, List.getElem?_eq_getElem lt]; rfl⟩
  have there : (s.heap.push (emptySet w)).get? s.heap.objs.size = some (emptySet w) := Heap.get?_push_size _ rfl
  refine set_update_ints ((Walks.list (show A.in1.handled = none by simp [hh]) _ l apart xs).toS) _ out ns sz hb vals (xs.size - 0) 0 _ rfl (Nat.zero_le _) ⟨⟨_, Heap.get?_push_size _ rfl, rfl, rfl⟩, (hl.push _).push _⟩
    ⟨0, Nat.le_refl 0, setR_new_at (Heap.get?_push_of_some _ there)⟩ fun s' c m hc R => ?_
  obtain ⟨h', g', d', tk', os'⟩ := s'
  have e1 : g' = s.gens := m.gens
  have e2 : d' = s.drawn := m.drawn
  have e3 : os' = s.os := m.os
  subst e1 e2 e3
  refine hq h' tk' c ⟨R, sz ▸ hc, fun b o e => ?_⟩
  have lt := Heap.lt_size e
  refine m.heap b o (fun z => ?_) (Heap.get?_push_of_some _ (Heap.get?_push_of_some _ e))
  rcases List.mem_cons.mp z with y | y
  · exact absurd y (Nat.ne_of_lt lt)
  · have q := List.mem_singleton.mp y
    rw [next] at q
    exact absurd q (Nat.ne_of_lt (Nat.lt_succ_of_lt lt))
theorem set_ints {l : Addr} {xs : Array Value} {ns : List Int} {Q : Value → Shared → Prop} (hh : A.handled = none) (hl : s.heap.IsList l xs) (hi : IntsAre xs.toList ns) (hb : ns.length + 1 < scanBound)
    (hq : ∀ h' tk c, SetLeft w s ns h' c → Q (.ref s.heap.objs.size) { s with heap := h', toks := tk }) : wpAny (model P w) A (call (.type "set") [.ref l]) Q E s := by
  obtain ⟨c0, tl, hmro⟩ := F.called_set.mro
  have f1 := F.called_set.made
  have f2 := F.called_set.sub
  have f3 := F.called_set.notType
  have f4 := F.called_set.canCreate
  have f5 := F.typeCall_set_1 (.ref l)
  refine wpAny_call (codeAny_of_tree (wpAny_pure ⟨Code.quiet_builtin _ (by decide +kernel), codeAny_builtin F.entry_type_call ?_⟩))
  rw [Around.under_plain (weight_type_call_type "set" [.ref l] []) rfl]
  repeat (any_goals (first | assumption | wp_step))
  refine codeAny_mono (code_set_led1 (.ref l) (E := E) (Q₁ := fun v s1 => v = .ref s.heap.objs.size ∧ s1 = { s with heap := s.heap.push (emptySet w) }) ⟨rfl, rfl⟩) fun r s1 hr => ?_
  rcases r with e | fl
  · exact hr
  cases fl with
  | ret v =>
    obtain ⟨rfl, rfl⟩ := hr
    have there : (s.heap.push (emptySet w)).get? s.heap.objs.size = some (emptySet w) := Heap.get?_push_size _ rfl
    have ty : Shared.TypeIs { s with heap := s.heap.push (emptySet w) } (.ref s.heap.objs.size) "set" := ⟨_, there, rfl⟩
    have f6 := F.called_set.init.lookup
    have f7 := F.called_set.init.bind (.ref s.heap.objs.size)
    repeat (any_goals (first | assumption | wp_step))
    refine codeAny_mono (codeAny_call_builtin (R := wants (fun r s2 => r = .none ∧ ∃ h' tk c, s2 = { s with heap := h', toks := tk } ∧ SetLeft w s ns h' c) E) F.called_set.init.plain F.entry_set_init (check_set_init_1 ty ?_)) fun r2 s2 h2 => ?_
    · obtain ⟨⟨oc, od, dt, osl⟩, hol, hc, nl, hd⟩ := id hl
      simp only at hc hd
      subst hc hd
      have hol' : (s.heap.push (emptySet w)).get? l = some { cls := .type "list", dict := od, data := .seq xs nl, slots := osl } := Heap.get?_push_of_some _ hol
      have f8 := F.sub_list_set
      have f9 := F.sub_list_frozenset
      have f10 : (Value.type "list" == Value.type "dict") = false := by decide
      have hl1 : (s.heap.push (emptySet w)).IsList l xs := ⟨_, hol', rfl, nl, rfl⟩
      unfold Builtin.«set.__init__» noKeywords Builtin.Frozenset.updateFrom
      generalize hPI : pyIter = PI
      wp_walk
      subst hPI
      refine wpAny_pyIter_list hl1 (wpAny_bind (wpAny_runValue (set_ints_loop (by simp [hh]) hl hi hb fun h' tk c z => ?_)))
      show wpAny _ _ _ _ _ _
      refine wpAny_pure ?_
      show wpAny _ _ (ret Value.none) _ _ _
      exact wpAny_pure ⟨rfl, h', tk, c, rfl, z⟩
    · rcases r2 with e | fl2
      · exact h2
      cases fl2 with
      | ret r =>
        obtain ⟨rfl, h', tk, c, rfl, z⟩ := h2
        repeat (any_goals (first | assumption | wp_step))
        exact hq _ _ _ z
      | _ => exact h2.elim
  | _ => exact hr.elim
end
section
variable {X : Cx}
def rSetL (K : PySem.W.Frag) (w : World) : List V → Hp → VK → Prop := fun xs H Q => ∃ (l : Addr) (ns : List Int), xs = [.ref l] ∧ SqL K H l (ns.map V.int) ∧ ns.length < 64 ∧ ∀ p c, H p = none → c ≤ ns.length → Q (.ref p) (upd H p (SetO w p (fun k => decide (k ∈ ns)) c))
theorem cr_setL (hc : X.calm = true) : CallR X (.type "set") (rSetL X.K X.w) := by
  intro pins s σ H xs us Q I r h
  obtain ⟨l, ns, rfl, hl, hf, q⟩ := h
  rw [Vals.ref1 r]
  obtain ⟨its, rv, pl, hz⟩ := I.list hl
  have hn : H s.heap.objs.size = none := I.hok.fresh (Nat.le_refl _)
  refine set_ints (P := X.prog) (w := X.w) (ns := ns) (I.ok.hd hc) pl.isList (by simpa using ints_of_vals rv) (by unfold scanBound; omega) fun h' tk c ⟨R, hcn, k⟩ => ?_
  exact ⟨.ref s.heap.objs.size, _, I.laid (t' := tk) k (Nat.le_refl _) (setO_new R), rfl, q _ c hn hcn⟩
theorem CallR.or {f : Value} {r1 r2 : List V → Hp → VK → Prop} (h1 : CallR X f r1) (h2 : CallR X f r2) : CallR X f (fun vs H Q => r1 vs H Q ∨ r2 vs H Q) := fun pins s σ H xs us Q I r h => h.elim (h1 pins s σ H xs us Q I r) (h2 pins s σ H xs us Q I r)
end
/-! ### by a key -/
section
variable {α : Type} {key : α → Int}
theorem insU_mem {x y : α} : ∀ {l : List α}, y ∈ insU key x l → y = x ∨ y ∈ l
  | [], h => by simpa [insU] using h
  | z :: l, h => by
    unfold insU at h
    split at h
    · simpa using h
    · split at h
      · exact .inr h
      · rcases List.mem_cons.mp h with e | e
        · exact .inr (e ▸ .head _)
        · rcases insU_mem e with e | e
          · exact .inl e
          · exact .inr (.tail _ e)
theorem insU_old {x y : α} : ∀ {l : List α}, y ∈ l → y ∈ insU key x l
  | z :: l, h => by
    unfold insU
    split
    · exact .tail _ h
    · split
      · exact h
      · rcases List.mem_cons.mp h with e | e
        · exact e ▸ .head _
        · exact .tail _ (insU_old e)
theorem insU_new {x : α} : ∀ {l : List α}, (∀ b ∈ l, key x = key b → x = b) → x ∈ insU key x l
  | [], _ => .head _
  | z :: l, inj => by
    unfold insU
    split
    · exact .head _
    · split
      · rename_i h; rw [← inj z (.head _) h]; exact .head _
      · exact .tail _ (insU_new fun b hb => inj b (.tail _ hb))
theorem insU_asc {x : α} : ∀ {l : List α}, l.Pairwise (fun a b => key a < key b) → (insU key x l).Pairwise (fun a b => key a < key b)
  | [], _ => by simp [insU]
  | z :: l, h => by
    obtain ⟨h1, h2⟩ := List.pairwise_cons.mp h
    unfold insU
    split
    · rename_i hx
      refine List.pairwise_cons.mpr ⟨fun y hy => ?_, h⟩
      rcases List.mem_cons.mp hy with e | e
      · rw [e]; exact hx
      · exact Int.lt_trans hx (h1 y e)
    · split
      · exact h
      · rename_i n1 n2
        refine List.pairwise_cons.mpr ⟨fun y hy => ?_, insU_asc h2⟩
        rcases insU_mem hy with e | e
        · rw [e]; omega
        · exact h1 y e
theorem usort_asc : ∀ {l : List α}, (usort key l).Pairwise (fun a b => key a < key b)
  | [] => .nil
  | x :: l => insU_asc usort_asc
theorem usort_sub {y : α} : ∀ {l : List α}, y ∈ usort key l → y ∈ l
  | [], h => h
  | x :: l, h => by
    rcases insU_mem h with e | e
    · exact e ▸ .head _
    · exact .tail _ (usort_sub e)
theorem usort_mem {y : α} : ∀ {l : List α}, (∀ a ∈ l, ∀ b ∈ l, key a = key b → a = b) → (y ∈ usort key l ↔ y ∈ l)
  | [], _ => Iff.rfl
  | x :: l, inj => by
    have ih := usort_mem (y := y) (l := l) fun a ha b hb => inj a (.tail _ ha) b (.tail _ hb)
    refine ⟨fun h => ?_, fun h => ?_⟩
    · rcases insU_mem h with e | e
      · exact e ▸ .head _
      · exact .tail _ (ih.mp e)
    · rcases List.mem_cons.mp h with e | e
      · rw [e]; exact insU_new fun b hb => inj x (.head _) b (.tail _ (usort_sub hb))
      · exact insU_old (ih.mpr e)
theorem asc_one : ∀ {l m : List α}, l.Pairwise (fun a b => key a < key b) → m.Pairwise (fun a b => key a < key b) → (∀ x, x ∈ l ↔ x ∈ m) → l = m
  | [], [], _, _, _ => rfl
  | [], y :: m, _, _, h => by have := (h y).mpr (.head _); cases this
  | x :: l, [], _, _, h => by have := (h x).mp (.head _); cases this
  | x :: l, y :: m, hl, hm, h => by
    obtain ⟨l1, l2⟩ := List.pairwise_cons.mp hl
    obtain ⟨m1, m2⟩ := List.pairwise_cons.mp hm
    have e : x = y := by
      rcases List.mem_cons.mp ((h x).mp (.head _)) with e | e
      · exact e
      · rcases List.mem_cons.mp ((h y).mpr (.head _)) with e2 | e2
        · exact e2.symm
        · have a1 := m1 x e
          have a2 := l1 y e2
          omega
    subst e
    rw [asc_one l2 m2 fun z => ⟨fun hz => ?_, fun hz => ?_⟩]
    · rcases List.mem_cons.mp ((h z).mp (.tail _ hz)) with e | e
      · have := l1 z hz; rw [e] at this; omega
      · exact e
    · rcases List.mem_cons.mp ((h z).mpr (.tail _ hz)) with e | e
      · have := m1 z hz; rw [e] at this; omega
      · exact e
end
/-! ### sorted(set(xs)), by data -/
theorem prsOf_some : ∀ {ds : List D} {ps : List (Int × Int)}, prsOf ds = some ps → ds = ps.map dPr
  | [], _, h => by cases h; rfl
  | d :: r, ps, h => by
    unfold prsOf at h
    split at h
    · rename_i e; cases e
    · rename_i a b r' e
      cases e
      rw [Option.map_eq_some_iff] at h
      obtain ⟨qs, h1, rfl⟩ := h
      rw [prsOf_some h1]; rfl
    · cases h
/-- where the pairs of a list stand -/
theorem rp_prs {F : Hp} : ∀ {ps : List (Int × Int)} {vs : List V}, RpAll F vs (ps.map dPr) → ∃ ks : List (Addr × List Int), vs = ks.map (fun p => V.ref p.1) ∧ ks.map (·.2) = ps.map (fun p => [p.1, p.2]) ∧ ∀ k ∈ ks, F k.1 = some (.tup (k.2.map V.int))
  | [], _, h => by cases h; exact ⟨[], rfl, rfl, fun k hk => by cases hk⟩
  | p :: ps, _, h => by
    cases h with
    | cons r t =>
      obtain ⟨ks, rfl, e2, e3⟩ := rp_prs t
      cases r with
      | tup e q =>
        cases q with
        | cons q1 q2 =>
          cases q2 with
          | cons q3 q4 =>
            cases q1; cases q3; cases q4
            rename_i a
            refine ⟨(a, [p.1, p.2]) :: ks, rfl, by simp [e2], fun k hk => ?_⟩
            rcases List.mem_cons.mp hk with z | z
            · rw [z]; exact e
            · exact e3 k z
theorem rp_of_prs {F : Hp} : ∀ {ks : List (Addr × List Int)} {ps : List (Int × Int)}, ks.map (·.2) = ps.map (fun p => [p.1, p.2]) → (∀ k ∈ ks, F k.1 = some (.tup (k.2.map V.int))) → RpAll F (ks.map fun p => V.ref p.1) (ps.map dPr)
  | [], [], _, _ => .nil
  | [], _ :: _, h, _ => by cases h
  | _ :: _, [], h, _ => by cases h
  | k :: ks, p :: ps, h, g => by
    simp only [List.map_cons, List.cons.injEq] at h
    refine .cons ?_ (rp_of_prs h.2 fun z hz => g z (.tail _ hz))
    have e := g k (.head _)
    rw [h.1] at e
    exact .tup e (.cons (.int _) (.cons (.int _) .nil))
theorem rpi_ints (F : Hp) : ∀ ns : List Int, RpAll F (ns.map V.int) (ns.map .int)
  | [] => .nil
  | n :: ns => .cons (.int n) (rpi_ints F ns)
section
variable {X : Cx} {G : Cg} {a : Expr} {da : Ex} {pos p1' p2' p3' : Pos}
theorem pd_sset (hc : X.calm = true) (hK : G.K = X.K) (hu : X.A.units + 64 < cLine) (hg : Gl X "sorted") (hm : X.mg "sorted" = none) (hg2 : Gl X "set") (hm2 : X.mg "set" = none) (ha : PE X a (tO G da)) (hst : starEach [a] X.env = (false, eval a X.env) :: starEach [] X.env)
    (hst2 : starEach [.Call (.Name "set" p2') [a] [] p3'] X.env = (false, eval (.Call (.Name "set" p2') [a] [] p3') X.env) :: starEach [] X.env) :
    PE X (.Call (.Name "sorted" p1') [.Call (.Name "set" p2') [a] [] p3'] [] pos) (tD G (dPrim .sset (dCons da dNil))) := by
  refine peI (pe_callB (CallR.or (cr_sortedSet hc) (cr_sortedT hc)) hg hm (by decide +kernel) (pa_cons (pe_callTy (CallR.or (cr_setL hc) (cr_setOfT hc hu)) hg2 hm2 (by decide +kernel) (pa_cons ha pa_nil hst) (by decide) (by decide) hst rfl) pa_nil hst2) (by decide) (by decide) hst2 rfl)
    fun σ H Q h => tO_imp (args1 (prim_args h)) fun v H1 ⟨A, F, w, ds, d, s, o, ro, e, f⟩ => ?_
  obtain ⟨d1, rfl, r1⟩ := RoAll1 ro
  replace e : ssetP d1 = some d := e
  cases d1 with
  | list ds =>
    obtain ⟨l, vs, rfl, hl, rp⟩ := r1.lst s
    replace e : (match intsOf ds with
      | some ns => if ns.length < 64 then some (PyData.list ((usort id ns).map .int)) else none
      | none => match prsOf ds with
        | some ps => if ps.length < 64 ∧ ps.all prOk = true then some (PyData.list ((usort prKey ps).map dPr)) else none
        | none => none) = some d := e
    split at e
    · rename_i ns hns
      split at e
      · rename_i hlt
        cases e
        have := intsOf_some hns
        subst this
        have := rp_ints rp
        subst this
        refine .inl ⟨l, ns, rfl, .inl (.inl hl), hlt, fun p c hp hcn => .inl ⟨p, _, c, rfl, upd_same, by omega, fun ms q asc mem len hq => ?_⟩⟩
        have hpq : q ≠ p := by
          intro z; subst z; rw [upd_same] at hq; cases hq
        have hq1 : H1 q = none := by rw [upd_ne hpq] at hq; exact hq
        have em : ms = usort id ns := asc_one (key := id) asc usort_asc fun x => by
          rw [mem x, decide_eq_true_eq, usort_mem (key := id) (fun a _ b _ e => e)]
        subst em
        have st1 : Step A F H1 A F (upd H1 p (SetO X.w p (fun k => decide (k ∈ ns)) c)) := .newO s hp
        have o1 := o.new st1 (keep_new hp)
        refine f _ A _ _ (st1.trans (.new st1.fh hq)) (o1.new (.new st1.fh hq) (keep_new hq)) (.inl (.lst upd_same ?_))
        exact rpi_ints _ (usort id ns)
      · cases e
    · split at e
      · rename_i hno ps hps
        split at e
        · rename_i hlt
          cases e
          have := prsOf_some hps
          subst this
          obtain ⟨ks, rfl, ek, hk⟩ := rp_prs rp
          have lk : ks.length = ps.length := by
            have := congrArg List.length ek
            simpa using this
          have bd : ∀ p ∈ ks, ∃ z : Int × Int, prOk z = true ∧ p.2 = [z.1, z.2] ∧ z ∈ ps := fun p hp => by
            have : p.2 ∈ ks.map (·.2) := List.mem_map.mpr ⟨p, hp, rfl⟩
            rw [ek] at this
            obtain ⟨z, hz, ez⟩ := List.mem_map.mp this
            exact ⟨z, List.all_eq_true.mp hlt.2 z hz, ez.symm, hz⟩
          refine .inr ⟨l, ks, rfl, .inl (.inl hl), fun p hp => .inl (.inl (s _ _ (hk p hp))), by omega, fun p L hp hsub hall => .inr ⟨p, L, 2, 64, rfl, upd_same, fun y hy => ?_, by omega, fun y hy => ?_, fun L' q pm nd l64 asc hq => ?_⟩⟩
          · refine .inl (.inl ?_)
            have hy1 := s _ _ (hk y (hsub y hy))
            rw [upd_ne (ne_of_none hy1 hp)]
            exact hy1
          · obtain ⟨z, hz, e2, _⟩ := bd y (hsub y hy)
            unfold prOk at hz
            simp only [decide_eq_true_eq] at hz
            rw [e2]
            refine ⟨rfl, fun n hn => ?_⟩
            simp at hn
            omega
          · have hpq : q ≠ p := by
              intro z; subst z; rw [upd_same] at hq; cases hq
            have hmem : ∀ y ∈ L', y ∈ ks := fun y hy => hsub y (pm.mem_iff.mp hy)
            -- the pairs of L'
            let qs : List (Int × Int) := L'.map fun y => (y.2.getD 0 0, y.2.getD 1 0)
            have eL : L'.map (·.2) = qs.map fun p => [p.1, p.2] := by
              rw [List.map_map]
              refine List.map_congr_left fun y hy => ?_
              obtain ⟨z, _, e2, _⟩ := bd y (hmem y hy)
              simp [e2]
            have inj : ∀ a ∈ ps, ∀ b ∈ ps, prKey a = prKey b → a = b := fun a ha b hb e => by
              have h1 := List.all_eq_true.mp hlt.2 a ha
              have h2 := List.all_eq_true.mp hlt.2 b hb
              unfold prOk at h1 h2
              unfold prKey at e
              simp only [decide_eq_true_eq] at h1 h2
              exact Prod.ext (by omega) (by omega)
            have eq : qs = usort prKey ps := by
              refine asc_one (key := prKey) ?_ usort_asc fun x => ?_
              · show (L'.map fun y => (y.2.getD 0 0, y.2.getD 1 0)).Pairwise _
                rw [List.pairwise_map]
                have nd2 : L'.Pairwise fun y z => y.2 ≠ z.2 := List.pairwise_map.mp nd
                refine (asc.and nd2).imp_of_mem fun {y z} hy hz ⟨h1, h2⟩ => ?_
                obtain ⟨a, oa, ea, ma⟩ := bd y (hmem y hy)
                obtain ⟨b, ob, eb, mb⟩ := bd z (hmem z hz)
                rw [ea, eb, code_pair, code_pair] at h1
                have h3 : a ≠ b := fun e => h2 (by rw [ea, eb, e])
                have h4 : prKey a ≠ prKey b := fun e => h3 (inj a ma b mb e)
                simp only [ea, eb]
                unfold prKey at h4 ⊢
                simp
                omega
              · rw [usort_mem inj]
                refine ⟨fun h => ?_, fun h => ?_⟩
                · obtain ⟨y, hy, rfl⟩ := List.mem_map.mp h
                  obtain ⟨z, _, ez, mz⟩ := bd y (hmem y hy)
                  simpa [ez] using mz
                · have h1 : ([x.1, x.2] : List Int) ∈ ks.map (·.2) := by rw [ek]; exact List.mem_map.mpr ⟨x, h, rfl⟩
                  obtain ⟨k, hk1, hk2⟩ := List.mem_map.mp h1
                  obtain ⟨y, hy, ey⟩ := List.mem_map.mp (hall k hk1)
                  refine List.mem_map.mpr ⟨y, pm.mem_iff.mpr hy, ?_⟩
                  rw [ey, hk2]
                  rfl
            rw [← eq] at f
            have st1 : Step A F H1 A F (upd H1 p (SetTO X.prog X.w p L)) := .newO s hp
            have o1 := o.new st1 (keep_new hp)
            refine f _ A _ _ (st1.trans (.new st1.fh hq)) (o1.new (.new st1.fh hq) (keep_new hq)) (.inl (.lst upd_same ?_))
            refine RpAll.mono (Fin.tup.same_upd_ (st1.fh.free hq)) _ _ (rp_of_prs eL fun y hy => hk y (hmem y hy))
        · cases e
      · cases e
  | _ => cases e
end
end Rx

set_option Elab.async false
set_option linter.all false
set_option maxRecDepth 100000
set_option maxHeartbeats 4000000
set_option autoImplicit false
namespace Rx
open PySem L2 PySem.Spec
open PyProof.Rows (IntsAre seqObj)
/-! ### sorted(t), t a tuple -/
section
open PySem.Calls PyProof.Rows PySem.W
variable {prog : Program} {w : World} {A : Around} {E : Value → Shared → Prop} {s : Shared}
theorem collect_tup {l : Addr} {vs : List Value} {Q : List Value → Shared → Prop} (hl : s.heap.IsTuple l vs.toArray) (hsz : vs.length ≤ sizeLine)
    (h : Q vs { s with heap := (s.heap.push (seqObj "list" #[] 0)).update s.heap.objs.size (Obj.mapSeq (· ++ vs.toArray)) }) : wpAny (model prog w) A (collect (.ref l)) Q E s := by
  obtain ⟨o, ho, hc, n, hd⟩ := id hl
  have ho' : (s.heap.push (seqObj "list" #[] 0)).get? l = some o := Heap.get?_push_of_some _ ho
  have mine : (s.heap.push (seqObj "list" #[] 0)).get? s.heap.objs.size = some (seqObj "list" #[] 0) := Heap.get?_push_size _ rfl
  unfold collect
  refine wpAny_bind (wpAny_runValue (codeAny_builtin entry_proto_collect' (wpAny_bind (wpAny_newList (wpAny_pure ⟨Code.quiet_builtin _ (by decide +kernel), codeAny_builtin entry_list_iadd' ?_⟩)))))
  show wpAny _ _ (Builtin.List.listExtendWith (.ref s.heap.objs.size) (.ref l) (.ref s.heap.objs.size)) _ _ { s with heap := s.heap.push (seqObj "list" #[] 0) }
  unfold Builtin.List.listExtendWith
  refine wpAny_bind (wpAny_typeOf (T := "tuple") ⟨o, ho', hc⟩ ?_)
  have tt : (Value.type "tuple" == Value.type "tuple") = true := by rfl
  rw [if_pos (by rw [tt]; simp)]
  refine wpAny_bind (listItems_at ho' hd (wpAny_bind (listItems_at mine rfl ?_)))
  rw [if_neg (by simp)]
  refine wpAny_bind (listUpdate_at mine rfl (wpAny_pure ?_) (Nat.zero_le _) (by show (#[] ++ vs.toArray).size ≤ sizeLine + 1; simp only [Array.size_append, List.size_toArray, List.length_nil]; omega))
  refine wpAny_bind (wpAny_load (get?_update_seq mine _) ?_)
  have e : ((#[] : Array Value) ++ vs.toArray).toList = vs := by simp
  show wpAny _ _ (pure ((#[] : Array Value) ++ vs.toArray).toList) Q E _
  rw [e]
  exact wpAny_pure h
theorem sorted_tup {β : Type} {vs : List Value} {bs : List β} {enc : β → PyData} {R : Value → β → Prop} {l : Addr} {Q : Value → Shared → Prop} (hl : s.heap.IsTuple l vs.toArray) (e : EachIs R vs bs) (er : EachIs (fun v b => ∃ as, Reads s.heap v (enc b) as) vs bs) (hal : AllAlike (bs.map enc)) (hk : Sortable (bs.map enc)) (hL : bs.length ≤ sizeLine)
    (hu : ∀ b, b ∈ bs → A.units + 2 + (enc b).depth < cLine) (h : ∀ out, out.length = bs.length → EachIs R out (bs.mergeSort (dataLe false enc)) → Q (.ref (s.heap.objs.size + 1)) { s with heap := sortedAll s.heap vs (List.toArray out) }) :
    wpAny (model prog w) A (call (.builtin "sorted") [.ref l]) Q E s := by
  have hLv : vs.length ≤ sizeLine := by rw [e.length]; exact hL
  have er2 : EachIs (fun v b => ∃ as, Reads (sortingHeap (copyHeap s.heap vs) (s.heap.objs.size + 1) vs) v (enc b) as) vs bs := er.mono fun _ _ ⟨as, r⟩ => ⟨as, PyProof.Rows.Reads.keeps (fun _ _ => sorting_copy_old) r⟩
  refine call_function_entry_kw kind_sorted plain_sorted entry_sorted (args_sorted1 _) ?_
  unfold Builtin.«sorted»
  refine wpAny_bind (m := checkCount "sorted" 1 1 _) (wpAny_pure (wpAny_bind (collect_tup hl hLv (wpAny_bind (wpAny_newList ?_ hLv)))))
  have size : ((s.heap.push (seqObj "list" #[] 0)).update s.heap.objs.size (Obj.mapSeq (· ++ vs.toArray))).objs.size = s.heap.objs.size + 1 := by rw [Heap.size_update, size_push']
  show wpAny _ _ _ _ _ { s with heap := copyHeap s.heap vs }
  rw [size]
  refine wpAny_bind (wpAny_holding (wpAny_call_entry slot_list_sort ⟨_, copyHeap_at s.heap vs, rfl⟩ entry_list_sort
    (list_sort_vals (s := { s with heap := copyHeap s.heap vs }) (κ := dataKind (sortingHeap (copyHeap s.heap vs) (s.heap.objs.size + 1) vs) (bs.map enc)) (copyHeap_at s.heap vs) (SortsAt.data (s := { s with heap := sortingHeap (copyHeap s.heap vs) (s.heap.objs.size + 1) vs }) (each_map (R := fun v d => ∃ as, Reads (sortingHeap (copyHeap s.heap vs) (s.heap.objs.size + 1) vs) v d as) enc er2) hal hk (bound_map hu)) hLv ⟨.none, rfl, wpAny_pure ⟨_, rfl, ?_⟩⟩) (args_list_sort _)))
  exact h _ (by rw [sortVals_length false rfl]; exact e.length) (sortVals_data false e er2 hal)
end
section
open PySem.W
variable {X : Cx} {G : Cg}
def rSrtT (K : PySem.W.Frag) : List V → Hp → VK → Prop := fun vs H Q => ∃ (a : Addr) (xs : List V) (ds : List D), vs = [V.ref a] ∧ H a = some (.tup xs) ∧ RpAll H xs ds ∧ srtOk ds = true ∧
  ∀ (ys : List V) (p : Addr), ys = ((xs.zip ds).mergeSort (fun p q => led p.2 q.2)).map (·.1) → H p = none → Q (.ref p) (upd H p (.lst ys))
theorem cr_srtT (hu : X.A.units + 64 < cLine) : CallR X (.builtin "sorted") (rSrtT X.K) := by
  intro pins s σ H vs us Q I r h
  obtain ⟨a, xs, ds, rfl, ha, rp, ok, q⟩ := h
  obtain ⟨al, so, dp, hz⟩ := srtOk_of ok
  obtain ⟨its, rv, hl, hzl⟩ := I.tuple (.inl (.inl ha))
  rw [Vals.ref1 r]
  obtain ⟨e1, e2⟩ := each_of I xs ds its rp rv
  have hzip : (xs.zip ds).map Prod.snd = ds := zip_snd rp
  refine sorted_tup (enc := Prod.snd) hl e1 e2 (by rw [hzip]; exact al) (by rw [hzip]; exact so) ?_ (fun b hb => ?_) fun out ho eo => ?_
  · rw [List.length_zip, rp.length, Nat.min_self]; exact zl hz
  · have := dp b.2 (by rw [← hzip]; exact List.mem_map.mpr ⟨b, hb, rfl⟩)
    omega
  · obtain ⟨ep, he'⟩ := PyProof.Rows.sortedAll_at s.heap its out.toArray
    have eq : (xs.zip ds).mergeSort (dataLe false Prod.snd) = (xs.zip ds).mergeSort (fun p q => led p.2 q.2) := PySem.W.sort_congr fun a _ b _ => (led_eq a.2 b.2).symm
    rw [eq] at eo
    have vl := vals_each eo
    have hlen : (((xs.zip ds).mergeSort (fun p q => led p.2 q.2)).map (·.1)).length ≤ sizeLine := by
      rw [List.length_map, List.length_mergeSort, List.length_zip, rp.length, Nat.min_self]
      exact zl hz
    exact ⟨.ref _, upd H (s.heap.objs.size + 1) (.lst _), I.laid (t' := s.toks) (fun _ _ => PyProof.Rows.sortedAll_old) (Nat.le_succ _) ⟨hlen, out, ep, vl, by simpa using he'⟩, rfl, q _ _ rfl (I.hok.fresh (Nat.le_succ _))⟩
end
section
variable {X : Cx} {G : Cg} {a : Expr} {da : Ex} {pos ps : Pos}
theorem pd_sortedT (hst : starEach [a] X.env = (false, eval a X.env) :: starEach [] X.env) (hu : X.A.units + 64 < cLine) (hg : Gl X "sorted") (hm : X.mg "sorted" = none) (ha : PE X a (tO G da)) : PE X (.Call (.Name "sorted" ps) [a] [] pos) (tD G (dPrim .sortedT (dCons da dNil))) :=
  pd_fnB (p := .sortedT) ⟨_, cr_srtT hu, fun Q vs H k => by
    obtain ⟨A, F, w, v, d1, d, e1, s, o, r, e, f⟩ := p1_args (f := sortedTP) rfl k
    subst e1
    cases d1 with
    | tuple ds =>
      replace e : (if srtOk ds then some (PyData.list (isort led ds)) else none) = some d := e
      split at e
      · rename_i ok; cases e
        obtain ⟨a, xs, rfl, ha, rp⟩ := r.tup
        refine ⟨a, xs, ds, rfl, s _ _ ha, rp.mono s, ok, fun ys p hy hp => ?_⟩
        subst hy
        exact f.lst s o hp (srt_all rp)
      · cases e
    | _ => cases e⟩ hg hm (by decide +kernel) (pao_cons ha pao_nil hst) (by decide) (by decide) hst rfl
end
/-! ### sum -/
section
variable {prog : Program} {w : World} {A : Around} {E : Value → Shared → Prop} {s : Shared} {l : Addr} {its : List Value} {ns : List Int} {Q : Value → Shared → Prop}
theorem sum_tup (hh : A.handled = none) (hl : s.heap.IsTuple l its.toArray) (hi : IntsAre its ns)
    (h : ∀ h' tk t', (∀ b o, s.heap.get? b = some o → h'.get? b = some o) → Q (.int ns.sum t') { s with heap := h', toks := tk }) : wpAny (model prog w) A (call (.builtin "sum") [.ref l]) Q E s := by
  obtain ⟨xs, e⟩ := hi.allInts.items
  have hn : numsOf (intItems xs).toList = ns := by rw [← e]; exact hi.numsOf
  rw [nums_intItems] at hn
  rw [e] at hl
  have lt : l < s.heap.objs.size := by obtain ⟨_, q, _⟩ := hl; exact Heap.lt_size q
  refine call_sum_walkG (wpAny_pyIter_tuple hl ⟨_, _, _, _, _, _, numAt xs, rfl, Walks.tuple (A := A.in1) hh _ l (Nat.ne_of_lt lt) (intItems xs), ⟨⟨_, Heap.get?_push_size _ rfl, rfl, rfl⟩, hl.push _⟩, fun b hb => ?_, (fun _ _ => intItems_at), fun h' tk t' hk => ?_⟩)
  · show b < (s.heap.push _).objs.size
    rw [Heap.size_push]
    rcases List.mem_cons.mp hb with z | z
    · rw [z]; exact Nat.lt_succ_self _
    · rw [List.mem_singleton.mp z]; exact Nat.lt_succ_of_lt lt
  · have q := h h' tk t' fun b o e => hk b o (fun m => absurd (Heap.lt_size e) ((List.mem_singleton.mp m) ▸ Nat.lt_irrefl _)) (Heap.get?_push_of_some _ e)
    have e2 : preSum (numAt xs) (intItems xs).size = ns.sum := by
      rw [show (intItems xs).size = xs.size by simp [intItems], preSum_eq, List.take_of_length_le (by simp), hn]
    rw [e2]
    exact q
end
section
variable {X : Cx} {G : Cg} {a : Expr} {da : Ex} {pos ps : Pos}
theorem cr_sumT (hc : X.calm = true) : CallR X (.builtin "sum") (fun vs H Q => ∃ (a : Addr) (ns : List Int), vs = [V.ref a] ∧ SqT X.K H a (ns.map V.int) ∧ Q (.int ns.sum) H) := by
  intro pins s σ H vs us Q I r h
  obtain ⟨a, ns, rfl, ha, q⟩ := h
  obtain ⟨its, rv, pl, hz⟩ := I.tuple ha
  rw [Vals.ref1 r]
  refine sum_tup (I.ok.hd hc) pl (ints_of_vals rv) fun h' tk t' k => ?_
  exact ⟨.int ns.sum, H, I.un (Un.kept k) (I.hok.kept k), ⟨t', rfl⟩, q⟩
theorem sumI_some : ∀ {ds : List D} {n : Int}, sumI ds = some n → ∃ ns : List Int, ds = ns.map .int ∧ n = ns.sum
  | [], n, h => by cases h; exact ⟨[], rfl, rfl⟩
  | .int i :: r, n, h => by
    unfold sumI at h
    rw [Option.map_eq_some_iff] at h
    obtain ⟨m, h1, rfl⟩ := h
    obtain ⟨ns, rfl, rfl⟩ := sumI_some h1
    exact ⟨i :: ns, rfl, by simp⟩
  | .none :: _, _, h => by cases h
  | .bool _ :: _, _, h => by cases h
  | .str _ :: _, _, h => by cases h
  | .list _ :: _, _, h => by cases h
  | .tuple _ :: _, _, h => by cases h
  | .dict _ :: _, _, h => by cases h
theorem pd_sum (hst : starEach [a] X.env = (false, eval a X.env) :: starEach [] X.env) (hc : X.calm = true) (hg : Gl X "sum") (hm : X.mg "sum" = none) (ha : PE X a (tO G da)) : PE X (.Call (.Name "sum" ps) [a] [] pos) (tD G (dPrim .sum (dCons da dNil))) :=
  pd_fnB (p := .sum) ⟨_, CallR.or (cr_sum hc) (cr_sumT hc), fun Q vs H k => by
    obtain ⟨A, F, w, v, d1, d, e1, s, o, r, e, f⟩ := p1_args (f := sumP) rfl k
    subst e1
    replace e : ((items d1).bind fun ds => (sumI ds).map PyData.int) = some d := e
    cases d1 with
    | list ds =>
      replace e : (sumI ds).map PyData.int = some d := e
      rw [Option.map_eq_some_iff] at e
      obtain ⟨n, e1, rfl⟩ := e
      obtain ⟨ns, rfl, rfl⟩ := sumI_some e1
      obtain ⟨a, xs, rfl, ha, rp⟩ := r.lst s
      have := rp_ints rp
      subst this
      exact .inl ⟨a, ns, rfl, .inl (.inl ha), f.same s o (.inl (.int _))⟩
    | tuple ds =>
      replace e : (sumI ds).map PyData.int = some d := e
      rw [Option.map_eq_some_iff] at e
      obtain ⟨n, e1, rfl⟩ := e
      obtain ⟨ns, rfl, rfl⟩ := sumI_some e1
      obtain ⟨a, xs, rfl, ha, rp⟩ := r.tup
      have := rp_ints rp
      subst this
      exact .inr ⟨a, ns, rfl, .inl (.inl (s _ _ ha)), f.same s o (.inl (.int _))⟩
    | _ => cases e⟩ hg hm (by decide +kernel) (pao_cons ha pao_nil hst) (by decide) (by decide) hst rfl
end
end Rx

set_option Elab.async false
set_option linter.all false
set_option maxRecDepth 100000
set_option maxHeartbeats 4000000
set_option autoImplicit false
namespace Rx
open PySem L2 PySem.Spec PySem.W
/-! ### min of a list of data -/
theorem ltd_eq (x y : D) : ltd x y = dataLt x y := by
  have h := led_eq y x
  unfold led at h
  rw [PySem.W.dataLe_eq] at h
  have h2 : (!ltd x y) = (!dataLt x y) := h
  cases h3 : ltd x y <;> cases h4 : dataLt x y <;> rw [h3, h4] at h2 <;> first | rfl | cases h2
theorem minF_eq (x : D) (xs : List D) : minF x xs = minD x xs := by
  unfold minF minD
  congr 1
  funext a y
  rw [ltd_eq]
theorem depthAll_le : ∀ {n : Nat} {ds : List D}, (∀ d ∈ ds, d.depth ≤ n) → PyData.depthAll ds ≤ n
  | n, [], _ => Nat.zero_le _
  | n, d :: ds, h => by
    unfold PyData.depthAll
    exact Nat.max_le.mpr ⟨h d (.head _), depthAll_le fun e he => h e (.tail _ he)⟩
section
variable {X : Cx} {G : Cg} {a : Expr} {da : Ex} {pos ps : Pos}
theorem cr_minD (hc : X.calm = true) (hu : X.A.units + 64 < cLine) : CallR X (.builtin "min") (fun vs H Q => ∃ (a : Addr) (xs : List V) (x : D) (ds : List D), vs = [V.ref a] ∧ H a = some (.lst xs) ∧ RpAll H xs (x :: ds) ∧ srtOk (x :: ds) = true ∧
    ∀ (i : Nat) (v : V), xs[i]? = some v → (x :: ds)[i]? = some (minF x ds) → Q v H) := by
  intro pins s σ H vs us Q I r h
  obtain ⟨a, xs, x, ds, rfl, ha, rp, ok, q⟩ := h
  obtain ⟨al, so, dp, hz⟩ := srtOk_of ok
  obtain ⟨its, rv, hl, hzl⟩ := I.list (SqL.of ha)
  rw [Vals.ref1 r]
  obtain ⟨as, ra⟩ := Dp.readsAll I _ _ _ rp.dp rv
  have nn : ∀ d ∈ x :: ds, d ≠ PyData.none := fun d hd => by
    rcases so with z | z
    · obtain ⟨y, t, e⟩ := z d hd
      rw [e]; intro k; cases k
    · exact (z d hd).1
  have dl := depthAll_le dp
  refine min_list_data (I.ok.hd hc) hl.isList (by simpa using ra) ⟨fun d hd e he => al d hd e he, nn⟩ (by omega) fun i v h' tk bs hv hr k => ?_
  have hv' : its[i]? = some v := by simpa using hv
  have hlt : i < xs.length := by rw [rv.length]; exact (List.getElem?_eq_some_iff.mp hv').1
  obtain ⟨v2, hv2, hu2⟩ := rv.get (List.getElem?_eq_getElem hlt)
  obtain ⟨u, hu1⟩ : ∃ u, xs[i]? = some u := ⟨_, List.getElem?_eq_getElem hlt⟩
  rw [hv'] at hv2
  cases hv2
  have hue : xs[i] = u := by rw [List.getElem?_eq_getElem hlt] at hu1; exact Option.some.inj hu1
  rw [hue] at hu2
  obtain ⟨d, hd1, hd2⟩ := rp.getV hu1
  obtain ⟨cs, rd⟩ := Dp.reads I _ _ _ hd2.dp hu2
  have e := (Reads.unique (PyProof.Rows.Reads.keeps k rd) _ _ hr).1
  rw [← minF_eq] at e
  exact ⟨u, H, I.un (Un.kept k) (I.hok.kept k), hu2, q i u hu1 (by rw [hd1, e])⟩
theorem pd_min1 (hst : starEach [a] X.env = (false, eval a X.env) :: starEach [] X.env) (hc : X.calm = true) (hu : X.A.units + 64 < cLine) (hg : Gl X "min") (hm : X.mg "min" = none) (ha : PE X a (tO G da)) : PE X (.Call (.Name "min" ps) [a] [] pos) (tD G (dPrim .min1 (dCons da dNil))) :=
  pd_fnB (p := .min1) ⟨_, cr_minD hc hu, fun Q vs H k => by
    obtain ⟨A, F, w, v, d1, d, e1, s, o, r, e, f⟩ := p1_args (f := min1P) rfl k
    subst e1
    cases d1 with
    | list ds =>
      cases ds with
      | nil => cases e
      | cons x ds =>
        replace e : (if srtOk (x :: ds) then some (minF x ds) else none) = some d := e
        split at e
        · rename_i ok; cases e
          obtain ⟨a, xs, rfl, ha, rp⟩ := r.lst s
          refine ⟨a, xs, x, ds, rfl, ha, rp.mono s, ok, fun i v hv hi => ?_⟩
          obtain ⟨d2, hd1, hd2⟩ := rp.getV hv
          rw [hd1] at hi
          cases hi
          exact f.same s o (.inl hd2)
        · cases e
    | _ => cases e⟩ hg hm (by decide +kernel) (pao_cons ha pao_nil hst) (by decide) (by decide) hst rfl
end
end Rx

set_option Elab.async false
set_option linter.all false
set_option maxRecDepth 100000
set_option maxHeartbeats 4000000
set_option autoImplicit false
namespace Rx
open PySem L2 PySem.Spec
/-! ### texts: f"{a}t{b}", sep.join(xs), str(x) -/
theorem small_log {i : Int} (h : small i = true) : i.natAbs.log2 < 1920 := by
  unfold small at h
  simp only [Bool.and_eq_true, decide_eq_true_eq] at h
  have h1 : i.natAbs < 2 ^ 64 := by omega
  by_cases h0 : i.natAbs = 0
  · rw [h0]; decide
  · have := (Nat.log2_lt h0).mpr (Nat.lt_of_lt_of_le h1 (Nat.pow_le_pow_right (by decide) (show 64 ≤ 1920 by decide)))
    exact this
theorem strsOf_some : ∀ {ds : List D} {ys : List Str}, strsOf ds = some ys → ds = ys.map .str
  | [], _, h => by cases h; rfl
  | .str x :: r, ys, h => by
    unfold strsOf at h
    rw [Option.map_eq_some_iff] at h
    obtain ⟨zs, h1, rfl⟩ := h
    rw [strsOf_some h1]; rfl
  | .none :: _, _, h => by cases h
  | .bool _ :: _, _, h => by cases h
  | .int _ :: _, _, h => by cases h
  | .list _ :: _, _, h => by cases h
  | .tuple _ :: _, _, h => by cases h
  | .dict _ :: _, _, h => by cases h
theorem rp_strs {F : Hp} : ∀ {ys : List Str} {vs : List V}, RpAll F vs (ys.map .str) → vs = ys.map V.str
  | [], _, h => by cases h; rfl
  | y :: ys, _, h => by
    cases h with
    | cons a t => cases a; rw [rp_strs t]; rfl
section
variable {X : Cx} {G : Cg} {a b : Expr} {da db : Ex} {pos ps p1 p2 p3 apos : Pos} {j : Nat} {t : Str}
theorem fmt_of {A : List Addr} {F H : Hp} {v : V} {d : D} {x : Str} {Q : VK} (ro : Ro G.K A F H v d) (h : fpiece d = some x) (q : Q (.str x) H) : (∃ y : Str, v = .str y ∧ y.length ≤ sizeLine ∧ Q (.str y) H) ∨ ∃ i : Int, v = .int i ∧ i.natAbs.log2 < 1920 ∧ Q (.str (toString i)) H := by
  cases d with
  | str y =>
    replace h : (if y.length ≤ zL then some y else none) = some x := h
    split at h
    · rename_i hz; cases h
      exact .inl ⟨_, ro.str, zl hz, q⟩
    · cases h
  | int i =>
    replace h : (if small i then some (strI i) else none) = some x := h
    split at h
    · rename_i hz; cases h
      exact .inr ⟨i, ro.int, small_log hz, q⟩
    · cases h
  | _ => cases h
theorem pd_fstr (ha : PE X a (tO G da)) (hb : PE X b (tO G db)) :
    PE X (.JoinedStr [.FormattedValue a (-1) none p1, .Constant (.str t) j p2, .FormattedValue b (-1) none p3] pos) (tD G (dFstr da t db)) := by
  refine peI (pe_joined (.cons (pe_fmt ha) (.cons pe_str (.cons (pe_fmt hb) .nil)))) fun σ H Q h => ?_
  obtain ⟨A, F, r, w, x, w', rel, e, post⟩ := h
  unfold dFstr at e
  show tO G da σ H _
  cases h1 : da G.c r w with
  | none => rw [h1] at e; cases e
  | some pr =>
    obtain ⟨x1, w1⟩ := pr
    rw [h1] at e
    cases x1 with
    | exc y => cases e; exact ⟨A, F, r, w, .exc y, _, rel, h1, post⟩
    | val d =>
      simp only at e
      cases hf : fpiece d with
      | none => rw [hf] at e; cases e
      | some xa =>
        rw [hf] at e
        simp only at e
        split at e
        · rename_i hz
          refine ⟨A, F, r, w, .val d, w1, rel, h1, fun v A1 F1 H1 s1 o1 r1 => fmt_of (Q := fun x H1 => ∃ y : Str, x = .str y ∧ (Str.empty ++ y).length ≤ sizeLine ∧ tJs [tC (V.str t), tFmt (tO G db)] (Str.empty ++ y) σ H1 fun out H1 => Q (V.str out) H1) r1 hf ?_⟩
          refine ⟨xa, rfl, zl hz.1, t, rfl, zl hz.2, ?_⟩
          show tO G db σ H1 _
          cases h2 : db G.c r w1 with
          | none => rw [h2] at e; cases e
          | some pr =>
            obtain ⟨x2, w2⟩ := pr
            rw [h2] at e
            cases x2 with
            | exc y => cases e; exact ⟨A1, F1, r, w1, .exc y, _, rel.step s1 o1, h2, fun cls dd A2 F2 H2 s2 o2 q => post cls dd A2 F2 H2 (s1.trans s2) o2 q⟩
            | val d2 =>
              simp only at e
              cases hf2 : fpiece d2 with
              | none => rw [hf2] at e; cases e
              | some xb =>
                rw [hf2] at e
                simp only at e
                split at e
                · rename_i hz2
                  cases e
                  refine ⟨A1, F1, r, w1, .val d2, _, rel.step s1 o1, h2, fun v2 A2 F2 H2 s2 o2 r2 => fmt_of (Q := fun x H1 => ∃ y : Str, x = .str y ∧ (Str.empty ++ xa ++ t ++ y).length ≤ sizeLine ∧ tJs [] (Str.empty ++ xa ++ t ++ y) σ H1 fun out H1 => Q (V.str out) H1) r2 hf2 ?_⟩
                  exact ⟨xb, rfl, zl hz2, post _ A2 F2 H2 (s1.trans s2) o2 (.inl (.str _))⟩
                · cases e
        · cases e
theorem pd_join (hK : G.K = X.K) (hs : starEach [b] X.env = [(false, eval b X.env)]) (hbase : attributeBase a "join" X.env (eval a X.env) = eval a X.env) (hline : (apos.endLine == pos.line) = true) (ha : PE X a (tO G da)) (hb : PE X b (tO G db)) :
    PE X (.Call (.Attribute a "join" apos) [b] [] pos) (tD G (dMeth .join isStr da db)) := by
  refine peI (pe_join ha hb hs hbase hline) fun σ H Q q => tO_imp (meth_of q) fun x H1 ⟨A, F, w, d, s, o, ro, ok, k⟩ => ?_
  cases d with
  | str y =>
    refine ⟨⟨y, ro.str⟩, tO_imp k fun z H2 ⟨A2, F2, w2, e, v, s2, o2, ro2, ry, ep, fn⟩ => ?_⟩
    replace ep : joinP (.str y) e = some v := ep
    cases e with
    | list xs =>
      replace ep : ((strsOf xs).bind fun ys => if sumLen ys + ys.length * y.length ≤ zL then some (PyData.str (Str.join y ys)) else none) = some v := ep
      rw [Option.bind_eq_some_iff] at ep
      obtain ⟨ys, e1, e2⟩ := ep
      split at e2
      · rename_i hz; cases e2
        have := strsOf_some e1
        subst this
        obtain ⟨a1, vs, rfl, hl, rp⟩ := ry.lst s2.fh
        have := rp_strs rp
        subst this
        refine ⟨y, a1, ys, ro2.str, rfl, .inl (.inl (.inl hl)), ?_, ?_⟩
        · have : (ys.map (·.length)).sum + ys.length * y.length ≤ zL := hz
          unfold zL at this
          omega
        · show Q (.str (Txt.join y ys)) H2
          rw [show Txt.join y ys = Str.join y ys from PySem.StrLaws.glued_eq_join y ys]
          exact fn.same s2.fh o2 (.inl (.str _))
      · cases e2
    | _ => cases ep
  | _ => cases ok
theorem pd_str1 (hst : starEach [a] X.env = (false, eval a X.env) :: starEach [] X.env) (hg : Gl X "str") (hm : X.mg "str" = none) (ha : PE X a (tO G da)) : PE X (.Call (.Name "str" ps) [a] [] pos) (tD G (dPrim .str (dCons da dNil))) :=
  pd_fnT (p := .str) ⟨_, CallR.or call_str_int SkE.call_str_str, fun Q vs H k => by
    obtain ⟨A, F, w, v, d1, d, e1, s, o, r, e, f⟩ := p1_args (f := strP) rfl k
    subst e1
    cases d1 with
    | int i =>
      replace e : (if small i then some (PyData.str (strI i)) else none) = some d := e
      split at e
      · rename_i hz; cases e
        exact .inl ⟨i, by rw [r.int], small_log hz, f.same s o (.inl (.str _))⟩
      · cases e
    | str x =>
      cases e
      exact .inr ⟨x, by rw [r.str], f.same s o (.inl (.str _))⟩
    | _ => cases e⟩ hg hm (by decide +kernel) (pao_cons ha pao_nil hst) (by decide) (by decide) hst rfl
end
end Rx

set_option Elab.async false
set_option linter.all false
set_option maxRecDepth 100000
set_option maxHeartbeats 4000000
set_option autoImplicit false
namespace Rx
open PySem L2 PySem.Spec
/-! ### enumerate of a tuple -/
def Iet (K : PySem.W.Frag) (a : Addr) (N : Nat) : It :=
  ⟨fun i H => ∃ (xs : List V) (x : V), SqT K H a xs ∧ xs.length = N ∧ xs[i]? = some x,
   fun i H v H' => ∃ T x, v = .ref T ∧ H T = none ∧ H' = upd H T (.tup [.int (i : Nat), x]) ∧ ∀ xs, SqT K H a xs → xs[i]? = some x,
   fun i H => ∃ xs : List V, SqT K H a xs ∧ xs.length = N ∧ N ≤ i⟩
theorem turn_en {P : Program} {w : World} {K : PySem.W.Frag} {elts : List Expr} {kk : Nat} {tpos : Pos} (a e it : Addr) (N : Nat) :
    Turn P w K (.Tuple elts kk tpos) (Iet K a N) [e, it] e (fun i h => (∃ old, IsEnum h e it ((i : Nat) : Int) old) ∧ h.IsTupleIter it a i ∧ e ≠ it ∧ i ≤ N) where
  mem := by simp
  obj := fun i h st b hb => by
    obtain ⟨⟨old, he⟩, ⟨o, ho, hc, hd⟩, _⟩ := st
    rcases List.mem_cons.mp hb with z | z
    · rw [z]; exact ⟨_, he, fun v q => nomatch q⟩
    · rw [List.mem_singleton.mp z]; exact ⟨o, ho, fun v q => by rw [hd] at q; cases q⟩
  keep := fun i h h' st k => let ⟨⟨old, he⟩, hi, hne, hN⟩ := st; ⟨⟨old, k e (by simp) _ he⟩, hi.at fun o q => k it (by simp) o q, hne, hN⟩
  item := by
    intro X hP hw hK hc i pins s σ H E I hf st hg
    subst hP hw hK
    obtain ⟨⟨old, he⟩, hit, hne, hN⟩ := st
    obtain ⟨xs, x, hq, hlN, hx⟩ := hg
    obtain ⟨its, rv, p, hz⟩ := I.tuple hq
    obtain ⟨u, hu, ru⟩ := rv.get hx
    have hel : e < s.heap.objs.size := Heap.lt_size he
    have hil : it < s.heap.objs.size := by obtain ⟨_, q, _⟩ := hit; exact Heap.lt_size q
    have hai : a ≠ it := by
      rintro rfl
      obtain ⟨o1, g1, c1, _⟩ := hit
      obtain ⟨o2, g2, c2, _⟩ := p
      rw [g1] at g2; cases g2
      rw [c1] at c2
      injection c2 with c3
      exact absurd c3 (by decide)
    have hae : a ≠ e := by
      rintro rfl
      obtain ⟨o2, g2, c2, _⟩ := p
      have g1 := he
      unfold IsEnum at g1
      rw [g1] at g2; cases g2
      injection c2 with c3
      exact absurd c3 (by decide)
    have hlt : i < its.toArray.size := by
      rw [List.size_toArray, ← rv.length]
      exact (List.getElem?_eq_some_iff.mp hx).1
    have D := Draws.tuple (prog := X.prog) (w := X.w) (A := X.A.in1) (by simp [I.ok.hd hc]) it a hai its.toArray
    refine wpAny_pyNext_enum_itemD D he ⟨hit, p⟩ hlt hne (fun m => by
      rcases List.mem_cons.mp m with z | z
      · exact hne z
      · exact hae (List.mem_singleton.mp z).symm) fun y h' tk hy ho hst hT hsz hk => ?_
    have hyu : y = u := by
      have : its[i]? = some y := by simpa using hy
      rw [hu] at this
      exact (Option.some.inj this).symm
    subst hyu
    refine ⟨_, rfl, wpAny_letOwnedTupleGo_enum (s := { s with heap := h', toks := tk + 1 }) ho fun h'' he' sb => ?_⟩
    have hT2 : h''.get? s.heap.objs.size = some { cls := .type "tuple", data := .seq #[.int i tk, y] } := (sb.2 _ (Nat.ne_of_gt hel)).trans hT
    have new : ObjOk X.prog X.w (upd H s.heap.objs.size (.tup [.int (i : Nat), x])) h'' s.heap.objs.size (.tup [.int (i : Nat), x]) :=
      ⟨by show 2 ≤ sizeLine; decide, [.int i tk, y], .cons ⟨_, rfl⟩ (.cons ru .nil), ⟨_, hT2, rfl, _, rfl⟩⟩
    have I1 : Inv X pins σ (upd H s.heap.objs.size (.tup [.int (i : Nat), x])) { s with heap := h'', toks := tk + 1 } :=
      I.turnedNew (ch := [e, it]) (fun b ob hb q => (sb.2 b (fun z => hb (by simp [z]))).trans (hk b ob (fun z => hb (by simp [z])) (fun z => hb (by simp [z])) q)) hf (Nat.le_refl _) new
    refine ⟨.ref s.heap.objs.size, _, I1, rfl, ⟨_, x, rfl, I.hok.fresh (Nat.le_refl _), rfl, fun ys hy2 => ?_⟩, ⟨⟨y, ?_⟩, hst.1.at fun o q => (sb.2 it (Ne.symm hne)).trans q, hne, ?_⟩, fun b hb => ?_⟩
    · obtain ⟨its2, rv2, p2, _⟩ := I.tuple hy2
      obtain ⟨o1, g1, _, n1, d1⟩ := p
      obtain ⟨o2, g2, _, n2, d2⟩ := p2
      rw [g1] at g2; cases g2
      rw [d1] at d2
      injection d2 with d3
      have : its = its2 := by simpa using congrArg Array.toList d3
      subst this
      rw [Vals.inj rv2 rv]; exact hx
    · have e1 : ((i + 1 : Nat) : Int) = (i : Int) + 1 := by omega
      rw [e1]; exact he'
    · have : i < xs.length := (List.getElem?_eq_some_iff.mp hx).1
      omega
    · have hb' : b < s.heap.objs.size := by
        rcases List.mem_cons.mp hb with z | z
        · rw [z]; exact hel
        · rw [List.mem_singleton.mp z]; exact hil
      rw [upd_ne (Nat.ne_of_lt hb')]
      exact (hf b hb).1
  done := by
    intro X hP hw hK hc i pins s σ H E I hf st hg
    subst hP hw hK
    obtain ⟨⟨old, he⟩, hit, hne, hN⟩ := st
    obtain ⟨xs, hq, hlN, hx⟩ := hg
    obtain ⟨its, rv, p, hz⟩ := I.tuple hq
    obtain ⟨f0, f1, f2, f3, f4, f5⟩ := hf it (by simp)
    have hai : a ≠ it := by
      rintro rfl
      obtain ⟨o1, g1, c1, _⟩ := hit
      obtain ⟨o2, g2, c2, _⟩ := p
      rw [g1] at g2; cases g2
      rw [c1] at c2
      injection c2 with c3
      exact absurd c3 (by decide)
    have D := Draws.tuple (prog := X.prog) (w := X.w) (A := X.A.in1) (by simp [I.ok.hd hc]) it a hai its.toArray
    have hi : i = its.toArray.size := by
      rw [List.size_toArray, ← rv.length]; omega
    rw [hi] at hit
    exact wpAny_pyNext_enum_endD D he ⟨hit, p⟩ fun h' eb => ⟨rfl, I.turned (t' := s.toks) (fun b o hb q => eb b o hb q) f0 f1 f3 f4 f5⟩
  self := fun A i s Q E st h => let ⟨⟨_, he⟩, _⟩ := st; wpAny_pyIter_enum he h
/-- enumerate(v): what is asked of v's iterator -/
theorem meets_en {v : Value} {o : Obj} {Hh : Heap → Prop} (B : Begins v o Hh) :
    Meets (Builtin.«enumerate.__new__» ⟨[.type "enumerate", v], []⟩) (fun _ R s => Hh s.heap ∧
      R (.ok (.ret (.ref (s.heap.push o).objs.size))) { s with heap := (s.heap.push o).push { cls := .type "enumerate", data := .fields #[.none, .bool false, .ref s.heap.objs.size, rawInt 0, .none, .none] } }) :=
  .of_wp fun prog w A R s h => by
    obtain ⟨hp, g, d, tk, os⟩ := s
    obtain ⟨h1, h⟩ := h
    have hsub := sub_enumerate
    have q1 : ∀ {A' : Around} {E : Value → Shared → Prop} {Q : Value → Shared → Prop}, Q (.ref hp.objs.size) ⟨hp.push o, g, d, tk, os⟩ → wpAny (model prog w) A' (pyIter v) Q E ⟨hp, g, d, tk, os⟩ := fun q => B.iter prog w _ _ ⟨hp, g, d, tk, os⟩ _ h1 q
    wp_walk using q1
    refine wpAny_stack_any fun st => wpAny_pure ?_
    split
    · rename_i c _ _ _ _ _
      cases (c == Value.type "enumerate") <;> (wp_walk using q1; exact ⟨_, rfl, h⟩)
    · wp_walk using q1
      exact ⟨_, rfl, h⟩
section
variable {prog : Program} {w : World} {A : Around} {E : Value → Shared → Prop} {s : Shared}
theorem call_en {v : Value} {o : Obj} {Hh : Heap → Prop} {Q : Value → Shared → Prop} (B : Begins v o Hh) (h1 : Hh s.heap)
    (h : ∀ h', IsEnum h' (s.heap.objs.size + 1) s.heap.objs.size 0 .none → h'.get? s.heap.objs.size = some o → (∀ b o, s.heap.get? b = some o → h'.get? b = some o) → Q (.ref (s.heap.objs.size + 1)) { s with heap := h' }) :
    wpAny (model prog w) A (call (.type "enumerate") [v]) Q E s := by
  refine callType_new F.called_enumerate (by decide) (F.typeCall_enumerate_1 _) (F.newCall_enumerate_1 _) (fun obj => F.args_object_init_2 obj _) F.entry_enumerate_new (meets_en B) ⟨h1, ?_⟩
  have size : (s.heap.push o).objs.size = s.heap.objs.size + 1 := Heap.size_push ..
  show _ ∧ _
  rw [size]
  have he : IsEnum ((s.heap.push o).push { cls := .type "enumerate", data := .fields #[.none, .bool false, .ref s.heap.objs.size, rawInt 0, .none, .none] }) (s.heap.objs.size + 1) s.heap.objs.size 0 .none := by
    have q := Heap.get?_push_size (s.heap.push o) (o := { cls := .type "enumerate", data := .fields #[.none, .bool false, .ref s.heap.objs.size, rawInt 0, .none, .none] }) rfl
    rw [size] at q; exact q
  exact ⟨⟨_, he, rfl⟩, h _ he (Heap.get?_push_of_some _ (Heap.get?_push_size _ B.free)) fun b o x => Heap.get?_push_of_some _ (Heap.get?_push_of_some _ x)⟩
end
theorem itF_enumT {K : PySem.W.Frag} {F : Hp} {a : Addr} {vs : List V} {ds : List D} (ha : F a = some (.tup vs)) (r : RpAll F vs ds) : ItF (Iet K a vs.length) F (enumD ds) := by
  refine ⟨fun F2 H2 i s1 s2 hi => ?_, fun A2 F2 H2 i x H3 s1 s2 hi hy => ?_, fun F2 H2 i s1 s2 hi => ?_⟩
  · rw [enumD_len] at hi
    have hl : i < vs.length := by rw [r.length]; exact hi
    exact ⟨vs, vs[i], .inl (.inl (s2 _ _ (s1 _ _ ha))), rfl, List.getElem?_eq_getElem hl⟩
  · obtain ⟨T, y, rfl, hT, rfl, h⟩ := hy
    obtain ⟨d, e1, e2⟩ := r.getV (h vs (.inl (.inl (s2 _ _ (s1 _ _ ha)))))
    refine ⟨upd F2 T (.tup [.int (i : Nat), y]), _, .new s2 hT, keep_new hT, enumD_get e1, .tup upd_same ?_⟩
    exact .cons (.int _) (.cons ((e2.mono s1).mono (same_new (s2.free hT))) .nil)
  · rw [enumD_len] at hi
    exact ⟨vs, .inl (.inl (s2 _ _ (s1 _ _ ha))), rfl, by rw [r.length]; exact hi⟩
section
variable {X : Cx} {G : Cg} {a : Expr} {da : Ex} {pos p tpos : Pos} {elts : List Expr} {kk : Nat}
theorem pi_en {t : TA} (hg : Gl X "enumerate") (hm : X.mg "enumerate" = none) (h : PA X [a] t) (hs : starEach [a] X.env = [(false, eval a X.env)]) :
    PI X (.Tuple elts kk tpos) (.Call (.Name "enumerate" p) [a] [] pos) (fun σ H R => t σ H fun vs H1 => (∃ q xs, vs = [.ref q] ∧ SqL X.K H1 q xs ∧ R (Ite X.K q) H1) ∨ (∃ q xs, vs = [.ref q] ∧ SqT X.K H1 q xs ∧ R (Iet X.K q xs.length) H1)) := by
  refine ⟨fun pins s σ H R I hh => ?_⟩
  refine wpAny_Call_Name_kw (ld_blt I hg hm PyProof.Rows.boot_enumerate (PyProof.Rows.callWith_type1 (thn (h.run pos pins s σ H _ I hh) fun us s1 ⟨vs, H1, I1, r1, q1⟩ => ?_) hs rfl))
  rcases q1 with ⟨q, xs, ex, hq, k⟩ | ⟨q, xs, ex, hq, k⟩
  · subst ex
    rw [Vals.ref1 r1]
    obtain ⟨its, rv, pl, hz⟩ := I1.list hq
    refine call_en (begins_list q its.toArray) pl.isList fun h' he hit hk => wpAny_pyIter_enum he ?_
    refine ⟨s1.heap.objs.size + 1, [s1.heap.objs.size + 1, s1.heap.objs.size], _, _, H1, rfl, I1.kept (t' := s1.toks) hk, turn_enum q (s1.heap.objs.size + 1) s1.heap.objs.size, ⟨⟨.none, he⟩, ⟨_, hit, rfl, rfl⟩, Nat.succ_ne_self _⟩, fun b hb => ?_, k⟩
    have hle : s1.heap.objs.size ≤ b := by
      rcases List.mem_cons.mp hb with z | z
      · rw [z]; exact Nat.le_succ _
      · rw [List.mem_singleton.mp z]; exact Nat.le_refl _
    exact I1.fpOk hle (I1.hok.fresh hle)
  · subst ex
    rw [Vals.ref1 r1]
    obtain ⟨its, rv, pl, hz⟩ := I1.tuple hq
    refine call_en (begins_tuple q its.toArray) pl fun h' he hit hk => wpAny_pyIter_enum he ?_
    refine ⟨s1.heap.objs.size + 1, [s1.heap.objs.size + 1, s1.heap.objs.size], _, _, H1, rfl, I1.kept (t' := s1.toks) hk, turn_en q (s1.heap.objs.size + 1) s1.heap.objs.size xs.length, ⟨⟨.none, he⟩, ⟨_, hit, rfl, rfl⟩, Nat.succ_ne_self _, Nat.zero_le _⟩, fun b hb => ?_, k⟩
    have hle : s1.heap.objs.size ≤ b := by
      rcases List.mem_cons.mp hb with z | z
      · rw [z]; exact Nat.le_succ _
      · rw [List.mem_singleton.mp z]; exact Nat.le_refl _
    exact I1.fpOk hle (I1.hok.fresh hle)
theorem pid_enum {frz : Bool} (hg : Gl X "enumerate") (hm : X.mg "enumerate" = none) (h : PE X a (tD G da)) (hs : starEach [a] X.env = [(false, eval a X.env)]) :
    PI X (.Tuple elts kk tpos) (.Call (.Name "enumerate" p) [a] [] pos) (tI G frz (iEnum da)) := by
  refine piI (pi_en hg hm (pa_cons h pa_nil (by rw [hs]; rfl)) hs) fun σ H R q => ?_
  obtain ⟨A, F, r, w, x, w', rel, e, post⟩ := q
  unfold iEnum at e
  cases h1 : da G.c r w with
  | none => rw [h1] at e; cases e
  | some pr =>
    obtain ⟨x1, w1⟩ := pr
    rw [h1] at e
    cases x1 with
    | exc y => cases e; exact ⟨A, F, r, w, .exc y, _, rel, h1, post⟩
    | val d =>
      simp only at e
      rw [Option.map_eq_some_iff] at e
      obtain ⟨ds, hi, e⟩ := e
      cases e
      refine ⟨A, F, r, w, .val d, _, rel, h1, fun v A1 F1 H1 s1 o1 r1 => ?_⟩
      have fin : ∀ {J : It}, ItF J F1 (enumD ds) → R J H1 := fun hit => post _ A1 F1 H1 s1 o1 (by
        split
        · exact hit
        · exact hit.s)
      rcases items_some hi with rfl | rfl
      · have r2 := r1.plain rfl
        cases r2 with
        | lst ha hr => exact .inl ⟨_, _, rfl, .inl (.inl (s1.fh _ _ ha)), fin (itF_enumL ha hr)⟩
      · have r2 := r1.plain rfl
        cases r2 with
        | tup ha hr => exact .inr ⟨_, _, rfl, .inl (.inl (s1.fh _ _ ha)), fin (itF_enumT ha hr)⟩
end
end Rx

set_option Elab.async false
set_option linter.all false
set_option maxRecDepth 100000
set_option maxHeartbeats 1000000
set_option autoImplicit false
/-! RxS24: worker objects. -/
namespace L2
open PySem PySem.Spec PyProof.Rows
section
variable {X : Cx} {CX : CXT} {k : Nat} {f C : Addr} {fd : FuncData} {ps : List Str} {sp : Sp} {E : St → XK} {x m : Str} {p pos apos : Pos} {e o : Expr} {es : List Expr} {ta : TE} {t : TA}
/-- o.m(..), what is raised is wished for at the caller's slots -/
def tMethSS (C : Addr) (m : Str) (sp : Sp) (E : St → XK) (ta : TE) (t : TA) : TE := fun σ H Q => ta σ H fun x H1 => ∃ a dx fs, x = .ref a ∧ H1 a = some (.ins C dx fs) ∧ fs.lookup m = none ∧
  t σ H1 fun vs H2 => sp (x :: vs) H2 Q (E σ)
theorem pe_methSS {pl : Sem Bool} (he : PE X o ta) (c : Cls X.K C) (hm : Meth X.K C m f) (F : FnOk X.prog X.w X.K X.mg X.base CX k f fd ps sp) (hr : Room k X.A) (hb : Binds X.K fd ps []) (hx : ∀ σ, PassesAt CX X σ (E σ)) (ha : PA X (e :: es) t)
    (hst : starEach (e :: es) X.env = (false, eval e X.env) :: starEach es X.env) (hpl : (backTo pos (starEach es X.env)).any (·.1) = false)
    (ht : eval (.Call (.Attribute o m apos) (e :: es) [] pos) X.env = (do
      let ov ← eval o X.env
      standAt apos.atName
      let (f, first) ← holding [ov] (getMethod ov m pl)
      callWith pos f first (backTo pos (starEach (e :: es) X.env)) (backToKw pos (keywordEach [] X.env)))) :
    PE X (.Call (.Attribute o m apos) (e :: es) [] pos) (tMethSS C m sp E ta t) := by
  refine ⟨fun pins s σ H Q I h => ?_⟩
  refine PySem.W.methodCall_KW (pl := pl) (thn (he.run pins s σ H _ I h) fun u s1 ⟨x, H1, I1, rx, a, dx, fs, ex, ea, l, q⟩ => ?_) ht
  subst ex
  obtain rfl : u = Value.ref a := rx
  refine getmeth_ok I1 ea c hm l ?_
  refine PySem.W.callWith_K (first := [.ref a]) (h₀ := X.base) I.ok.mod.kin hm.kp (thn (ha.run pos pins s1 σ H1 _ I1 q) fun us s2 ⟨vs, H2, I2, r, q2⟩ => ⟨I2.kIn, ?_⟩) hst hpl
  exact run_fnS (us := .ref a :: us) (vs := .ref a :: vs) F hr hb (hx σ) I2 (.cons rfl r) q2
theorem pe_methSS0 {pl : Sem Bool} (he : PE X o ta) (c : Cls X.K C) (hm : Meth X.K C m f) (F : FnOk X.prog X.w X.K X.mg X.base CX k f fd ps sp) (hr : Room k X.A) (hb : Binds X.K fd ps []) (hx : ∀ σ, PassesAt CX X σ (E σ))
    (ht : eval (.Call (.Attribute o m apos) [] [] pos) X.env = (do
      let ov ← eval o X.env
      standAt apos.atName
      let (f, first) ← holding [ov] (getMethod ov m pl)
      callWith pos f first (backTo pos (starEach [] X.env)) (backToKw pos (keywordEach [] X.env)))) :
    PE X (.Call (.Attribute o m apos) [] [] pos) (tMethSS C m sp E ta tNil) := by
  refine ⟨fun pins s σ H Q I h => ?_⟩
  refine PySem.W.methodCall_KW (pl := pl) (thn (he.run pins s σ H _ I h) fun u s1 ⟨x, H1, I1, rx, a, dx, fs, ex, ea, l, q⟩ => ?_) ht
  subst ex
  obtain rfl : u = Value.ref a := rx
  refine getmeth_ok I1 ea c hm l ?_
  exact PySem.W.callWith_K0 (first := [.ref a]) I1.kIn hm.kp (run_fnS (us := [.ref a]) (vs := [.ref a]) F hr hb (hx σ) I1 (.cons rfl .nil) q)
/-- the callee runs, somewhere below -/
theorem run_fnA {A : Around} {pins : List (Addr × Obj)} {σ : St} {H : Hp} {s : Shared} {Q : VK} {us : List Value} {vs : List V} (F : FnOk X.prog X.w X.K X.mg X.base CX k f fd ps sp) (hr : Room k A) (hfr : A.frames = X.A.frames) (hb : Binds X.K fd ps []) (hx : PassesAt CX X σ (E σ))
    (I : Inv X pins σ H s) (r : Vals vs us) (h : sp vs H Q (E σ)) : wpAny (model X.prog X.w) A (call (.ref f) us) (EP X pins σ Q) X.xe s := by
  have hl : us.length = ps.length := by rw [← r.length]; exact F.len _ _ _ _ h
  have b := hb s us I.kIn (by rw [List.append_nil]; exact hl)
  rw [List.append_nil] at b
  have e0 : Env0 X.prog X.w X.K X.mg X.base A X.stack s H := by
    have e := I.env0
    exact ⟨by rw [hfr]; exact e.frames, e.mod, e.bs, e.bsz, e.funs, e.frf, e.hok, e.bare⟩
  refine wpAny_call (codeAny_mono (F.run A X.stack s H ⟨us, []⟩ us vs Q (E σ) hr e0 b r h) fun r s' hq => ?_)
  cases r with
  | error e => exact hx pins H s e s' I hq
  | ok fl =>
    cases fl with
    | ret u => exact I.after hq
    | next => exact False.elim hq
    | brk => exact False.elim hq
    | cont => exact False.elim hq
def tMakeS (C : Addr) (sp : Sp) (E : St → XK) (t : TA) : TE := fun σ H Q => t σ H fun vs H1 => ∀ x dx, H1 x = none → H1 dx = none → dx ≠ x →
  sp (.ref x :: vs) (upd (upd H1 dx (.own x)) x (.ins C dx [])) (fun v H2 => v = .non ∧ Q (.ref x) H2) (E σ)
theorem run_makeS {pins : List (Addr × Obj)} {σ : St} {H : Hp} {s : Shared} {Q : VK} {us : List Value} {vs : List V} (M : Mk X.K C f) (F : FnOk X.prog X.w X.K X.mg X.base CX k f fd ps sp) (hr : Room (k + 1) X.A) (hb : Binds X.K fd ps [])
    (hx : PassesAt CX X σ (E σ)) (I : Inv X pins σ H s) (r : Vals vs us)
    (h : ∀ x dx, H x = none → H dx = none → dx ≠ x → sp (.ref x :: vs) (upd (upd H dx (.own x)) x (.ins C dx [])) (fun v H2 => v = .non ∧ Q (.ref x) H2) (E σ)) :
    wpAny (model X.prog X.w) X.A (call (.ref C) us) (EP X pins σ Q) X.xe s := by
  have hq := h (s.heap.objs.size + 1) s.heap.objs.size (I.hok.fresh (Nat.le_succ _)) (I.hok.fresh (Nat.le_refl _)) (Nat.ne_of_lt (Nat.lt_succ_self _))
  have I2 := Inv.made (C := C) I
  have r2 : Vals (V.ref (s.heap.objs.size + 1) :: vs) (Value.ref (s.heap.objs.size + 1) :: us) := .cons rfl r
  have hl : (Value.ref (s.heap.objs.size + 1) :: us ++ []).length = ps.length := by
    have e := r2.length
    rw [F.len _ _ _ _ hq] at e
    rw [List.append_nil]
    exact e.symm
  have b := hb _ (Value.ref (s.heap.objs.size + 1) :: us) I2.kIn hl
  rw [List.append_nil] at b
  refine wpAny_call (make_map (f := f) I.kIn M.makes M.init (beq_iff_eq.mp M.fn) (codeAny_mono (F.run _ X.stack _ _ ⟨Value.ref (s.heap.objs.size + 1) :: us, []⟩ (Value.ref (s.heap.objs.size + 1) :: us) _ _ (E σ) (hr.make C us [])
    (I2.env0.make C us []) b r2 hq) fun r s' hq' => ?_))
  cases r with
  | error e => exact hx pins _ _ e s' I2 hq'
  | ok fl =>
    cases fl with
    | ret u =>
      obtain ⟨v, H', I3, rv, ev, q3⟩ := I2.after hq'
      subst ev
      exact ⟨rv, ⟨V.ref (s.heap.objs.size + 1), H', I3, rfl, q3⟩⟩
    | next => exact False.elim hq'
    | brk => exact False.elim hq'
    | cont => exact False.elim hq'
theorem pe_makeS (M : Mk X.K C f) (F : FnOk X.prog X.w X.K X.mg X.base CX k f fd ps sp) (hr : Room (k + 1) X.A) (hg : Gl X x) (hm : X.mg x = some (.ref C)) (hb : Binds X.K fd ps []) (hx : ∀ σ, PassesAt CX X σ (E σ))
    (ha : PA X (e :: es) t) (hdb : (x == ("__debug__" : Str)) = false) (he : starEach (e :: es) X.env = (false, eval e X.env) :: starEach es X.env) (hpl : (backTo pos (starEach es X.env)).any (·.1) = false) :
    PE X (.Call (.Name x p) (e :: es) [] pos) (tMakeS C sp E t) := by
  refine ⟨fun pins s σ H Q I h => ?_⟩
  refine wpAny_Call_Name_kw (ld_glob I hg hm ?_ hdb)
  refine PySem.W.callWith_K (h₀ := X.base) I.ok.mod.kin M.kp (thn (ha.run pos pins s σ H _ I h) fun us s1 ⟨vs, H1, I1, r, q⟩ => ⟨I1.kIn, ?_⟩) he hpl
  exact run_makeS M F hr hb (hx σ) I1 r q
end
end L2

namespace Rx
open PySem L2
/-! ### fields -/
theorem FldR.lookup {F : Hp} {f : Str} {d : D} : ∀ {vs : List (Str × V)} {fs : List (Str × D)}, FldR F vs fs → fs.lookup f = some d → ∃ v, vs.lookup f = some v ∧ Rp F v d
  | _, _, .nil, h => by cases h
  | _, _, .cons (a := (a, v)) (b := (b, e)) r t, h => by
    obtain ⟨r1, r2⟩ := r
    simp only at r1 r2
    subst r1
    rw [List.lookup_cons] at h ⊢
    split
    · rename_i q; rw [q] at h; cases h; exact ⟨v, rfl, r2⟩
    · rename_i q; rw [q] at h; exact FldR.lookup t h
theorem FldR.none {F : Hp} {f : Str} : ∀ {vs : List (Str × V)} {fs : List (Str × D)}, FldR F vs fs → fs.lookup f = none → vs.lookup f = none
  | _, _, .nil, h => rfl
  | _, _, .cons (a := (a, v)) (b := (b, e)) r t, h => by
    obtain ⟨r1, r2⟩ := r
    simp only at r1 r2
    subst r1
    rw [List.lookup_cons] at h ⊢
    split
    · rename_i q; rw [q] at h; cases h
    · rename_i q; rw [q] at h; exact FldR.none t h
theorem FldR.put {F : Hp} {f : Str} {v : V} {d : D} (h : Rp F v d) : ∀ {vs : List (Str × V)} {fs : List (Str × D)}, FldR F vs fs → FldR F (putF f v vs) (putD f d fs)
  | _, _, .nil => .cons ⟨rfl, h⟩ .nil
  | _, _, .cons (a := (a, u)) (b := (b, e)) r t => by
    obtain ⟨r1, r2⟩ := r
    simp only at r1 r2
    subst r1
    unfold putF putD
    by_cases q : a = f
    · rw [if_pos q, if_pos q]; exact .cons ⟨rfl, h⟩ t
    · rw [if_neg q, if_neg q]; exact .cons ⟨rfl, r2⟩ (FldR.put h t)
theorem FldR.length {F : Hp} : ∀ {vs : List (Str × V)} {fs : List (Str × D)}, FldR F vs fs → vs.length = fs.length
  | _, _, .nil => rfl
  | _, _, .cons _ t => by simp [FldR.length t]
section
variable {K : PySem.W.Frag} {A : List Addr} {F H : Hp} {v : V}
theorem Rt.obj {i : Nat} (h : Rt K A F v (dObj i)) : ∃ a, A[i]? = some a ∧ v = .ref a := by
  rcases h with h | ⟨j, a, e, h1, h2⟩ | ⟨_, _, e, _⟩ | ⟨_, _, e, _⟩
  · cases h
  · unfold dObj at e
    injection e with e; injection e with e _; injection e with e _; injection e with e
    have : i = j := by omega
    subst this
    exact ⟨a, h1, h2⟩
  · unfold dObj dScript at e; injection e with e; injection e with e _; injection e with e _; cases e
  · unfold dObj dX at e; injection e with e; injection e with e _; injection e with e _; cases e
end
/-- what the class of the workers is -/
structure Wk (K : PySem.W.Frag) (mg : Str → Option Value) (C : Addr) : Prop where
  cls : Cls K C
  glo : mg "Worker" = some (.ref C)
  noat : ∀ f : Str, f = "size" ∨ f = "row" ∨ f = "kept" → NoAttr K C f
  kcls : PySem.W.findIn K (.ref C) "__class__" = some (some (.builtin "object.__class__"))
  kget : PySem.W.specialIn K (.builtin "object.__class__") "__get__" = some (some (.builtin "getset_descriptor.__get__"))
  ktak : PySem.W.takesIn K (.builtin "object.__class__") = some true
  kmro : PySem.W.mroIn K C (.type "object") = some true
  isO : PySem.W.kitOne K (.ref C) (.ref C) = some true
  isT : PySem.W.kitOne K (.type "tuple") (.ref C) = some false
  isS : PySem.W.kitOne K (.type "str") (.ref C) = some false
  nfO : PySem.W.notFirst K C (.ref C) = true
  nfT : PySem.W.notFirst K C (.type "tuple") = true
  nfS : PySem.W.notFirst K C (.type "str") = true
  ne : PySem.W.findIn K (.ref C) "__ne__" = some (some (.builtin "object.__ne__"))
/-- a method of the workers -/
def CalleeM (P : Program) (w : World) (K : PySem.W.Frag) (mg : Str → Option Value) (base : Heap) (C : Addr) (ec : Nat → Option Value) (c : Cf) (k : Nat) (m : Str) (fid np : Nat) : Prop := ∃ (f : Addr) (fd : FuncData) (ps : List Str), ps.length = np ∧ Meth K C m f ∧ (m = "__init__" → Mk K C f) ∧ Binds K fd ps [] ∧ FnOk P w K mg base (L2.CX P w) k f fd ps (spOf K C ec c fid np)
section
variable {X : Cx} {G : Cg} {a b e o : Expr} {es : List Expr} {da db de do_ : Ex} {des : Exs} {pos apos : Pos}
theorem Omg.obj {C : Addr} {A : List Addr} {F H : Hp} {w : Om} (om : Omg C A F H w) {i : Nat} {a : Addr} (h : A[i]? = some a) : ∃ fs dx vs, w[i]? = some fs ∧ H a = some (.ins C dx vs) ∧ F a = none ∧ FldR F vs fs := by
  obtain ⟨hl, _⟩ := List.getElem?_eq_some_iff.mp h
  have hw : i < w.length := by rw [← om.len]; exact hl
  obtain ⟨dx, vs, e1, e2, e3⟩ := om.at_ i a w[i] h (List.getElem?_eq_getElem hw)
  exact ⟨w[i], dx, vs, List.getElem?_eq_getElem hw, e1, e2, e3⟩
/-- o.f -/
theorem pd_fld {f : Str} (hK : G.K = X.K) (W : Wk X.K X.mg G.C) (hf : f = "size" ∨ f = "row" ∨ f = "kept") (ho : PE X o (tD G do_)) (hb : attributeBase o f X.env (eval o X.env) = eval o X.env) : PE X (.Attribute o f pos) (tD G (dFld do_ f)) :=
  peI (pe_fld ho hb) fun σ H Q ⟨A, F, r, w, x, w', rel, e, post⟩ => by
    unfold dFld at e
    cases h1 : do_ G.c r w with
    | none => rw [h1] at e; cases e
    | some pr =>
      obtain ⟨x1, w1⟩ := pr
      rw [h1] at e
      cases x1 with
      | exc y => cases e; exact ⟨A, F, r, w, .exc y, _, rel, h1, post⟩
      | val d =>
        simp only at e
        cases hi : isO d with
        | none => rw [hi] at e; cases e
        | some i =>
          rw [hi] at e
          simp only at e
          have hd := isO_eq hi
          subst hd
          refine ⟨A, F, r, w, .val (dObj i), w1, rel, h1, fun v A1 F1 H1 s1 o1 r1 => ?_⟩
          obtain ⟨a, ha, rfl⟩ := r1.obj
          obtain ⟨fs, dx, vs, hw, hH, hF, hR⟩ := o1.obj ha
          rw [hw] at e
          simp only at e
          cases hl : fs.lookup f with
          | none => rw [hl] at e; cases e
          | some d =>
            rw [hl] at e; cases e
            obtain ⟨u, hu, ru⟩ := hR.lookup hl
            exact ⟨a, G.C, dx, vs, u, rfl, hH, W.cls, W.noat f hf, hu, post u A1 F1 H1 s1 o1 (.inl ru)⟩
/-- a field of an object changes -/
theorem Step.fld {A : List Addr} {F H : Hp} {C a dx : Addr} {vs vs' : List (Str × V)} (h : Same F H) (e : H a = some (.ins C dx vs)) (hF : F a = none) : Step A F H A F (upd H a (.ins C dx vs')) := by
  refine ⟨⟨[], by simp⟩, .refl _, fun b u q => ?_, fun p o q hi => ?_, fun p C' dx' fs q => ?_, fun p o q => rfl⟩
  · have : b ≠ a := fun z => by rw [z, hF] at q; cases q
    rw [upd_ne this]; exact h b u q
  · have : p ≠ a := fun z => by rw [z, e] at q; cases q; cases hi
    rw [upd_ne this]; exact q
  · by_cases z : p = a
    · subst z; rw [e] at q; cases q; exact ⟨vs', upd_same⟩
    · exact ⟨fs, by rw [upd_ne z]; exact q⟩
theorem Omg.fld {C : Addr} {A : List Addr} {F H : Hp} {w : Om} (om : Omg C A F H w) {i : Nat} {a dx : Addr} {vs' : List (Str × V)} {fs' : Fs} (ha : A[i]? = some a) (hF : F a = none) (hR : FldR F vs' fs') : Omg C A F (upd H a (.ins C dx vs')) (w.set i fs') := by
  refine ⟨by rw [List.length_set]; exact om.len, om.nd, fun j b gs hj hg => ?_⟩
  by_cases hij : i = j
  · subst hij
    rw [ha] at hj; cases hj
    obtain ⟨hl, _⟩ := List.getElem?_eq_some_iff.mp ha
    rw [List.getElem?_set_self (by rw [← om.len]; exact hl)] at hg
    cases hg
    exact ⟨dx, vs', upd_same, hF, hR⟩
  · rw [List.getElem?_set_ne hij] at hg
    obtain ⟨dy, us, e1, e2, e3⟩ := om.at_ j b gs hj hg
    have : b ≠ a := fun z => by
      subst z
      obtain ⟨h1, q1⟩ := List.getElem?_eq_some_iff.mp ha
      obtain ⟨h2, q2⟩ := List.getElem?_eq_some_iff.mp hj
      have nd := List.pairwise_iff_getElem.mp om.nd
      rcases Nat.lt_or_gt_of_ne hij with z | z
      · exact nd i j h1 h2 z (q1.trans q2.symm)
      · exact nd j i h2 h1 z (q2.trans q1.symm)
    exact ⟨dy, us, by rw [upd_ne this]; exact e1, e2, e3⟩
/-- o.f = e -/
theorem psd_fld {f : Str} {pos' : Pos} (W : Wk X.K X.mg G.C) (hf : f = "size" ∨ f = "row" ∨ f = "kept") (ho : PE X o (tD G do_)) (he : PE X e (tD G de)) (hs : swapsWith e (some (.Attribute o f pos')) pos.line X.env = pure false) : PS X (.Assign [.Attribute o f pos'] e pos) (tS G (sFld do_ f de)) :=
  psI (ps_fld ho he hs) fun Dd σ H ⟨A, F, r, w, x, w', rs, e, post⟩ => by
    unfold Rx.sFld at e
    cases h1 : de G.c r w with
    | none => rw [h1] at e; cases e
    | some pr =>
      obtain ⟨x1, w1⟩ := pr
      rw [h1] at e
      refine tD_of rs h1 (fun d hd v A1 F1 H1 s1 rs1 rt => ?_) (fun y hy cls dd A' F' H' rs' xr => ?_)
      · subst hd
        simp only at e
        cases h2 : do_ G.c r w1 with
        | none => rw [h2] at e; cases e
        | some pr =>
          obtain ⟨x2, w2⟩ := pr
          rw [h2] at e
          refine tD_of rs1 h2 (fun d2 hd2 v2 A2 F2 H2 s2 rs2 rt2 => ?_) (fun y hy cls dd A' F' H' rs' xr => ?_)
          · subst hd2
            simp only at e
            cases hi : isO d2 with
            | none => rw [hi] at e; cases e
            | some i =>
              rw [hi] at e
              simp only at e
              have hd := isO_eq hi
              subst hd
              obtain ⟨a, ha, rfl⟩ := rt2.obj
              obtain ⟨fs, dx, vs, hw, hH, hF, hR⟩ := rs2.rel.om.obj ha
              rw [hw] at e
              simp only at e
              split at e
              · rename_i hp
                cases e
                have rv : Rp F2 v d := ((rt.step s2).plain hp.1)
                refine ⟨a, G.C, dx, vs, rfl, hH, W.cls, W.noat f hf, by rw [hR.length]; omega, ?_⟩
                have st := Step.fld (A := A2) (vs' := putF f v vs) rs2.rel.fh hH hF
                exact post σ A2 F2 _ (rs2.step st (rs2.rel.om.fld ha hF (hR.put rv))) (s1.ff.trans s2.ff)
              · cases e
          · subst hy; cases e
            exact post cls dd σ A' F' H' rs' xr
      · subst hy; cases e
        exact post cls dd σ A' F' H' rs' xr
/-- a new object -/
theorem Step.mkO {C : Addr} {A : List Addr} {F H : Hp} {x dx : Addr} (h : Same F H) (hx : H x = none) (hd : H dx = none) (ne : dx ≠ x) : Step A F H (A ++ [x]) F (upd (upd H dx (.own x)) x (.ins C dx [])) := by
  refine ⟨⟨[x], rfl⟩, .refl _, fun b u q => ?_, fun p o q _ => ?_, fun p C' dx' fs q => ⟨fs, ?_⟩, fun p o q => rfl⟩
  · have q2 := h b u q
    rw [upd_ne (ne_of_none q2 hx), upd_ne (ne_of_none q2 hd)]; exact q2
  · rw [upd_ne (ne_of_none q hx), upd_ne (ne_of_none q hd)]; exact q
  · rw [upd_ne (ne_of_none q hx), upd_ne (ne_of_none q hd)]; exact q
theorem Omg.mkO {C : Addr} {A : List Addr} {F H : Hp} {w : Om} (om : Omg C A F H w) {x dx : Addr} (h : Same F H) (hx : H x = none) (hd : H dx = none) (ne : dx ≠ x) : Omg C (A ++ [x]) F (upd (upd H dx (.own x)) x (.ins C dx [])) (w ++ [[]]) := by
  have out : ∀ a ∈ A, a ≠ x ∧ a ≠ dx := fun a ha => by
    obtain ⟨i, hi⟩ := List.getElem?_of_mem ha
    obtain ⟨_, _, _, _, q, _⟩ := om.obj hi
    exact ⟨ne_of_none q hx, ne_of_none q hd⟩
  refine ⟨by rw [List.length_append, List.length_append, om.len]; rfl, ?_, fun i a fs hi hf => ?_⟩
  · rw [List.nodup_append]
    refine ⟨om.nd, by simp, fun a ha b hb => ?_⟩
    rw [List.mem_singleton] at hb
    subst hb
    exact (out a ha).1
  · by_cases hl : i < A.length
    · rw [List.getElem?_append_left hl] at hi
      rw [List.getElem?_append_left (by rw [← om.len]; exact hl)] at hf
      obtain ⟨dy, us, e1, e2, e3⟩ := om.at_ i a fs hi hf
      obtain ⟨n1, n2⟩ := out a (List.mem_of_getElem? hi)
      exact ⟨dy, us, by rw [upd_ne n1, upd_ne n2]; exact e1, e2, e3⟩
    · have hi2 : i = A.length := by
        obtain ⟨h1, _⟩ := List.getElem?_eq_some_iff.mp hi
        rw [List.length_append] at h1
        simp at h1
        omega
      subst hi2
      rw [List.getElem?_append_right (Nat.le_refl _), Nat.sub_self] at hi
      have hf2 : (w ++ [[]])[w.length]? = some fs := by rw [← om.len]; exact hf
      rw [List.getElem?_append_right (Nat.le_refl _), Nat.sub_self] at hf2
      cases hi; cases hf2
      exact ⟨dx, [], upd_same, h.free hx, .nil⟩
/-- C(..) -/
theorem pd_mk {k np fid : Nat} {p : Pos} (hK : G.K = X.K) (tk : Takes X G.W) (W : Wk X.K X.mg G.C) (Fn : CalleeM X.prog X.w X.K X.mg X.base G.C G.ec G.c k "__init__" fid (np + 1)) (hr : Room (k + 1) X.A) (hg : Gl X "Worker")
    (ha : PA X (e :: es) (tDs G des)) (he : starEach (e :: es) X.env = (false, eval e X.env) :: starEach es X.env) (hpl : (backTo pos (starEach es X.env)).any (·.1) = false)
    (hlen : ∀ c r w ds w', des c r w = some (.vals ds, w') → ds.length = np) :
    PE X (.Call (.Name "Worker" p) (e :: es) [] pos) (tD G (dMk fid des)) := by
  obtain ⟨f, fd, ps, hp, hm, hM, hb, fn⟩ := Fn
  refine peI (pe_makeS (E := WE G.W) (hM rfl) fn hr hg W.glo hb (fun σ => passAt tk σ) ha (by decide) he hpl) fun σ H Q ⟨A, F, r, w, x, w', rel, e, post⟩ => ?_
  unfold dMk at e
  cases h1 : des G.c r w with
  | none => rw [h1] at e; cases e
  | some pr =>
    obtain ⟨x1, w1⟩ := pr
    rw [h1] at e
    cases x1 with
    | exc y => cases e; exact ⟨A, F, r, w, .exc y, _, rel, h1, post⟩
    | vals ds =>
      simp only at e
      refine ⟨A, F, r, w, .vals ds, w1, rel, h1, fun vs A1 F1 H1 s1 o1 r1 => fun x dx hx hd hne => ?_⟩
      have st := Step.mkO (C := G.C) (A := A1) s1.fh hx hd hne
      have om := o1.mkO s1.fh hx hd hne
      cases h2 : G.c fid (dObj w1.length :: ds) (w1 ++ [[]]) with
      | none => rw [h2] at e; cases e
      | some pr =>
        obtain ⟨x2, w2⟩ := pr
        rw [h2] at e
        have hA : (A1 ++ [x])[w1.length]? = some x := by
          rw [← o1.len, List.getElem?_append_right (Nat.le_refl _), Nat.sub_self]; rfl
        refine ⟨A1 ++ [x], F1, dObj w1.length :: ds, w1 ++ [[]], x2, w2, by rw [List.length_cons, r1.length, hlen _ _ _ _ _ h1], ?_, st.fh, om, h2, ?_⟩
        · rw [← hK]
          exact .cons (.inr (.inl ⟨w1.length, x, rfl, hA, rfl⟩)) (r1.step st)
        · cases x2 with
          | val d =>
            simp only at e
            split at e
            · rename_i hnn
              cases e
              intro v A2 F2 H2 s2 o2 r2
              have hd0 : d = .none := by
                unfold isNone at hnn
                split at hnn
                · rfl
                · cases hnn
              subst hd0
              have hv : v = .non := Ro.non (H := H2) (.inl r2)
              subst hv
              refine ⟨rfl, post (.ref x) A2 F2 H2 ((s1.trans st).trans s2) o2 (.inr (.inl ⟨w1.length, x, rfl, ?_, rfl⟩))⟩
              obtain ⟨B, eB⟩ := s2.ext
              rw [eB, List.getElem?_append_left (by rw [List.length_append, o1.len]; simp)]
              exact hA
            · cases e
          | exc y =>
            cases e
            exact fun cls dd A2 F2 H2 s2 o2 q => post cls dd A2 F2 H2 ((s1.trans st).trans s2) o2 q
/-- o.m(e, ..) -/
theorem pd_mt {k np fid : Nat} {m : Str} {pl : Sem Bool} (hK : G.K = X.K) (tk : Takes X G.W) (W : Wk X.K X.mg G.C) (Fn : CalleeM X.prog X.w X.K X.mg X.base G.C G.ec G.c k m fid (np + 1)) (hr : Room k X.A)
    (ho : PE X o (tD G do_)) (ha : PA X (e :: es) (tDs G des)) (he : starEach (e :: es) X.env = (false, eval e X.env) :: starEach es X.env) (hpl : (backTo pos (starEach es X.env)).any (·.1) = false)
    (hlen : ∀ c r w ds w', des c r w = some (.vals ds, w') → ds.length = np)
    (ht : eval (.Call (.Attribute o m apos) (e :: es) [] pos) X.env = (do
      let ov ← eval o X.env
      standAt apos.atName
      let (f, first) ← holding [ov] (getMethod ov m pl)
      callWith pos f first (backTo pos (starEach (e :: es) X.env)) (backToKw pos (keywordEach [] X.env)))) :
    PE X (.Call (.Attribute o m apos) (e :: es) [] pos) (tD G (dMt fid m do_ des)) := by
  obtain ⟨f, fd, ps, hp, hm, hM, hb, fn⟩ := Fn
  refine peI (pe_methSS (E := WE G.W) ho W.cls hm fn hr hb (fun σ => passAt tk σ) ha he hpl ht) fun σ H Q ⟨A, F, r, w, x, w', rel, e, post⟩ => ?_
  unfold dMt at e
  cases h1 : do_ G.c r w with
  | none => rw [h1] at e; cases e
  | some pr =>
    obtain ⟨x1, w1⟩ := pr
    rw [h1] at e
    cases x1 with
    | exc y => cases e; exact ⟨A, F, r, w, .exc y, _, rel, h1, post⟩
    | val d =>
      simp only at e
      cases hi : isO d with
      | none => rw [hi] at e; cases e
      | some i =>
        rw [hi] at e
        simp only at e
        have hd := isO_eq hi
        subst hd
        refine ⟨A, F, r, w, .val (dObj i), w1, rel, h1, fun v A1 F1 H1 s1 o1 r1 => ?_⟩
        obtain ⟨a, hA, rfl⟩ := r1.obj
        obtain ⟨fs, dx, vs, hw, hH, hF, hR⟩ := o1.obj hA
        rw [hw] at e
        simp only at e
        split at e
        · rename_i hnn
          refine ⟨a, dx, vs, rfl, hH, hR.none (Option.isNone_iff_eq_none.mp hnn), ?_⟩
          cases h2 : des G.c r w1 with
          | none => rw [h2] at e; cases e
          | some pr =>
            obtain ⟨x2, w2⟩ := pr
            rw [h2] at e
            cases x2 with
            | exc y => cases e; exact ⟨A1, F1, r, w1, .exc y, _, rel.step s1 o1, h2, fun cls dd A2 F2 H2 s2 o2 q => post cls dd A2 F2 H2 (s1.trans s2) o2 q⟩
            | vals ds =>
              simp only at e
              refine ⟨A1, F1, r, w1, .vals ds, w2, rel.step s1 o1, h2, fun us A2 F2 H2 s2 o2 r2 => ?_⟩
              refine ⟨A2, F2, dObj i :: ds, w2, x, w', by rw [List.length_cons, r2.length, hlen _ _ _ _ _ h2], ?_, s2.fh, o2, e, ?_⟩
              · rw [← hK]; exact .cons (r1.step s2) r2
              · cases x with
                | val d => exact fun v A3 F3 H3 s3 o3 r3 => post v A3 F3 H3 ((s1.trans s2).trans s3) o3 (hK ▸ r3)
                | exc y => exact fun cls dd A3 F3 H3 s3 o3 q => post cls dd A3 F3 H3 ((s1.trans s2).trans s3) o3 q
        · cases e
theorem pd_mt0 {k fid : Nat} {m : Str} {pl : Sem Bool} (hK : G.K = X.K) (tk : Takes X G.W) (W : Wk X.K X.mg G.C) (Fn : CalleeM X.prog X.w X.K X.mg X.base G.C G.ec G.c k m fid 1) (hr : Room k X.A)
    (ho : PE X o (tD G do_))
    (ht : eval (.Call (.Attribute o m apos) [] [] pos) X.env = (do
      let ov ← eval o X.env
      standAt apos.atName
      let (f, first) ← holding [ov] (getMethod ov m pl)
      callWith pos f first (backTo pos (starEach [] X.env)) (backToKw pos (keywordEach [] X.env)))) :
    PE X (.Call (.Attribute o m apos) [] [] pos) (tD G (dMt fid m do_ dNil)) := by
  obtain ⟨f, fd, ps, hp, hm, hM, hb, fn⟩ := Fn
  refine peI (pe_methSS0 (E := WE G.W) ho W.cls hm fn hr hb (fun σ => passAt tk σ) ht) fun σ H Q ⟨A, F, r, w, x, w', rel, e, post⟩ => ?_
  unfold dMt at e
  cases h1 : do_ G.c r w with
  | none => rw [h1] at e; cases e
  | some pr =>
    obtain ⟨x1, w1⟩ := pr
    rw [h1] at e
    cases x1 with
    | exc y => cases e; exact ⟨A, F, r, w, .exc y, _, rel, h1, post⟩
    | val d =>
      simp only at e
      cases hi : isO d with
      | none => rw [hi] at e; cases e
      | some i =>
        rw [hi] at e
        simp only at e
        have hd := isO_eq hi
        subst hd
        refine ⟨A, F, r, w, .val (dObj i), w1, rel, h1, fun v A1 F1 H1 s1 o1 r1 => ?_⟩
        obtain ⟨a, hA, rfl⟩ := r1.obj
        obtain ⟨fs, dx, vs, hw, hH, hF, hR⟩ := o1.obj hA
        rw [hw] at e
        simp only at e
        split at e
        · rename_i hnn
          refine ⟨a, dx, vs, rfl, hH, hR.none (Option.isNone_iff_eq_none.mp hnn), ?_⟩
          replace e : G.c fid [dObj i] w1 = some (x, w') := e
          refine ⟨A1, F1, [dObj i], w1, x, w', rfl, ?_, s1.fh, o1, e, ?_⟩
          · rw [← hK]; exact .cons r1 .nil
          · cases x with
            | val d => exact fun v A3 F3 H3 s3 o3 r3 => post v A3 F3 H3 (s1.trans s3) o3 (hK ▸ r3)
            | exc y => exact fun cls dd A3 F3 H3 s3 o3 q => post cls dd A3 F3 H3 (s1.trans s3) o3 q
        · cases e
end
end Rx

set_option Elab.async false
set_option linter.all false
set_option maxRecDepth 100000
set_option maxHeartbeats 1000000
set_option autoImplicit false
/-! RxS25: len, str, ==, != by the class's own methods; isinstance of it. -/
namespace PySem.W
open PySem PySem.Calls PyProof.Rows Builtin
section
variable {prog : Program} {w : World} {A : Around} {E : Value → Shared → Prop} {s : Shared} {K : Frag} {x C f : Addr} {ox : Obj} {od : Option Obj} {b tb : Value}
/-- object.__ne__ by the own == -/
theorem rx_neBody {Q : Fin → Shared → Prop} (hu : A.units < cLine) (X : K.In s.heap) (I : InstAt s.heap x ox C od) (hs : findIn K (.ref C) "__eq__" = some (some (.ref f))) (hf : isFn K (.ref f) = true)
    (h : wpAny (model prog w) A (call (.ref f) [.ref x, b]) (fun v s' => ∃ t, v = .bool t ∧ Q (.done (.ret (.bool (!t)))) s') E s) :
    wpAny (model prog w) A (Builtin.«object.__ne__» ⟨[.ref x, b], []⟩) Q E s := by
  unfold Builtin.«object.__ne__»
  repeat (first
    | with_reducible refine wpAny_cRoomFor hu ?_
    | (refine wpAny_bind (m := callSpecialIfBound? (.ref x) (Str.ofString "__eq__") [b])
        (ifBound_K X I hs hf (wpAny_mono h (fun r s' hr => by
          obtain ⟨t, rfl, hq⟩ := hr
          repeat (first | exact hq | exact wpAny_pure hq | exact wpAny_truthy_bool hq | (refine wpAny_bind (m := truthy (.bool _)) (wpAny_truthy_bool ?_)) | wp_step)) fun _ _ e => e)))
    | wp_step)
/-- the builtin of an instance's class, called -/
theorem rx_ifBoundB {M : Model} {name : Str} {id : String} {args : List Value} {Q : Option Value → Shared → Prop} (X : K.In s.heap) (I : InstAt s.heap x ox C od) (hs : findIn K (.ref C) name = some (some (.builtin id))) (S : Slot "object" name id)
    (h : wpAny M A (call (.builtin id) (.ref x :: args)) (fun v => Q (some v)) E s) : wpAny M A (callSpecialIfBound? (.ref x) name args) Q E s := by
  simp only [callSpecialIfBound?, bindSpecialIfBound?]
  refine wpAny_holding (wpAny_bind (wpAny_bind (wpAny_bind (I.type.here ((looks_findIn X hs).here ?_)))))
  simp only [S.bind]
  refine wpAny_bind (wpAny_askSetting (wpAny_ite ?_))
  have fin : wpAny M A (call (.builtin id) ([.ref x] ++ args) >>= fun v => pure (some v)) Q E s := wpAny_bind (wpAny_mono h (fun v s' h' => wpAny_pure h') fun _ _ h' => h')
  split
  · first | exact wpAny_bind (wpAny_pure fin) | exact wpAny_bind (wpAny_pure (wpAny_pure fin)) | exact fin
  · first | exact wpAny_tryCatch (wpAny_bind (wpAny_pure fin)) | exact wpAny_tryCatch (wpAny_bind (wpAny_pure (wpAny_pure fin))) | exact wpAny_tryCatch fin
theorem rx_ne {Q : Value → Shared → Prop} (hu : A.units + 1 < cLine) (X : K.In s.heap) (I : InstAt s.heap x ox C od) (hb : Looks (model prog w) s.heap (typeOf b) tb) (hn : notFirst K C tb = true)
    (hne : findIn K (.ref C) "__ne__" = some (some (.builtin "object.__ne__"))) (hmro : mroIn K C (.type "object") = some true) (hs : findIn K (.ref C) "__eq__" = some (some (.ref f))) (hf : isFn K (.ref f) = true)
    (h : wpAny (model prog w) A.in1 (call (.ref f) [.ref x, b]) (fun v s' => ∃ t, v = .bool t ∧ Q (.bool (!t)) s') E s) : wpAny (model prog w) A (richCompare .NotEq (.ref x) b) Q E s := by
  have sub : Looks (model prog w) s.heap (isInstance (.ref x) (.type "object")) true := I.type.andThen (looks_mroIn X hmro)
  have one : wpAny (model prog w) A (tryCompare (.ref x) (cmpInfo .NotEq).2.1 b) (fun r s' => ∃ v, r = some v ∧ Q v s') E s := by
    unfold tryCompare
    refine wpAny_bind (rx_ifBoundB X I hne PySem.F.cmp_object.ne (wpAny_call (codeAny_call_builtin PySem.F.cmp_object.ne.plain PySem.F.cmpEntry_ne
      (@check_slot (model prog w) _ _ s "object.__ne__" "object" "__ne__" (.ref x) [b] [] _ PySem.F.cmpKind_ne PySem.F.cmpSplit_ne sub (PySem.F.cmpArgs_ne _ _) (rx_neBody (A := A.in1) hu X I hs hf (wpAny_mono h (fun v s' hv => ?_) fun _ _ e => e))))))
    obtain ⟨t, rfl, hq⟩ := hv
    first | exact ⟨t, rfl, wpAny_pure ⟨_, rfl, hq⟩⟩ | exact ⟨t, rfl, ⟨_, rfl, hq⟩⟩ | exact ⟨t, rfl, wpAny_pure (wpAny_pure ⟨_, rfl, hq⟩)⟩
  unfold richCompare
  simp only [oneThing_ref]
  refine wpAny_holding (wpAny_bind (wpAny_cRoomFor (Nat.lt_of_succ_lt hu) ?_))
  refine wpAny_bind (I.type.here (wpAny_bind (hb.here ?_)))
  split
  · rename_i q
    have e : subIn K tb (.ref C) = some false := by
      rcases Bool.or_eq_true_iff.mp hn with e | e
      · rw [beq_iff_eq.mp e] at q; simp at q
      · exact beq_iff_eq.mp e
    refine wpAny_bind ((looks_subIn X e).here ?_)
    simp only [Bool.false_eq_true, if_false]
    refine wpAny_bind (wpAny_mono one (fun r s' z => ?_) fun _ _ e => e)
    obtain ⟨v, rfl, hq⟩ := z
    exact wpAny_pure hq
  · refine wpAny_bind (wpAny_pure ?_)
    simp only [Bool.false_eq_true, if_false]
    refine wpAny_bind (wpAny_mono one (fun r s' z => ?_) fun _ _ e => e)
    obtain ⟨v, rfl, hq⟩ := z
    exact wpAny_pure hq
end
end PySem.W

namespace L2
open PySem PySem.Spec PyProof.Rows
section
variable {X : Cx} {k : Nat} {f C : Addr} {fd : FuncData} {ps : List Str} {sp : Sp} {W : WX}
theorem call_lenO (tk : Takes X W) (m : Meth X.K C "__len__" f) (F : FnOk X.prog X.w X.K X.mg X.base (L2.CX X.prog X.w) k f fd ps sp) (hr : Room (k + 1) X.A) (hb : Binds X.K fd ps []) :
    CallR X (.builtin "len") (fun xs H Q => ∃ a dx fs, xs = [.ref a] ∧ H a = some (.ins C dx fs) ∧ ∀ E, sp [.ref a] H (fun v H' => ∃ n : Int, v = .int n ∧ 0 ≤ n ∧ n < 2 ^ 63 ∧ Q (.int n) H') E) := by
  intro pins s σ H xs us Q I r h
  obtain ⟨a, dx, fs, rfl, ha, hsp⟩ := h
  cases r with
  | cons r1 r2 =>
    cases r2
    cases r1
    obtain ⟨mA, O, _⟩ := ins_get I.hok ha
    obtain ⟨od, J, _⟩ := O.look
    obtain ⟨mm, hF⟩ := I.fr
    refine PySem.W.len_K hF I.ok.mod.kin J m.at_ m.fn (wpAny_mono (run_fnA (E := WE W) (vs := [.ref a]) F hr.in1 rfl hb (passAt tk σ) I (.cons rfl .nil) (hsp _)) (fun u s' hq => ?_) fun _ _ e => e)
    obtain ⟨v, H', I', rv, n, rfl, h0, h1, q⟩ := hq
    obtain ⟨t, rfl⟩ := (show ∃ t, u = Value.int n t from rv)
    exact ⟨⟨h0, h1⟩, .int n, H', I'.tok _, ⟨_, rfl⟩, q⟩
theorem call_strO (tk : Takes X W) (m : Meth X.K C "__str__" f) (F : FnOk X.prog X.w X.K X.mg X.base (L2.CX X.prog X.w) k f fd ps sp) (hr : Room (k + 2) X.A) (hb : Binds X.K fd ps []) :
    CallR X (.type "str") (fun xs H Q => ∃ a dx fs, xs = [.ref a] ∧ H a = some (.ins C dx fs) ∧ ∀ E, sp [.ref a] H (fun v H' => ∃ y : Str, v = .str y ∧ Q (.str y) H') E) := by
  intro pins s σ H xs us Q I r h
  obtain ⟨a, dx, fs, rfl, ha, hsp⟩ := h
  cases r with
  | cons r1 r2 =>
    cases r2
    cases r1
    obtain ⟨mA, O, _⟩ := ins_get I.hok ha
    obtain ⟨od, J, _⟩ := O.look
    refine PySem.W.kso_call (hr.in1.in1.units0) I.kIn J m.at_ m.fn (wpAny_mono (run_fnA (E := WE W) (vs := [.ref a]) F hr.in1.in1 rfl hb (passAt tk σ) I (.cons rfl .nil) (hsp _)) (fun u s' hq => ?_) fun _ _ e => e)
    obtain ⟨v, H', I', rv, y, rfl, q⟩ := hq
    obtain ⟨t, rfl⟩ := (show ∃ t, u = Value.str y t from rv)
    exact ⟨.str y, H', I', ⟨_, rfl⟩, q⟩
/-- what may be compared with a worker -/
def Cb (C : Addr) (y : V) (H : Hp) : Prop := (∃ b dx fs, y = .ref b ∧ H b = some (.ins C dx fs)) ∨ (∃ b xs, y = .ref b ∧ H b = some (.tup xs)) ∨ ∃ z, y = .str z
theorem cb_type {pins : List (Addr × Obj)} {σ : St} {H : Hp} {s : Shared} {y : V} {u : Value} (I : Inv X pins σ H s) (ry : RelV y u) (h : Cb C y H) (n1 : PySem.W.notFirst X.K C (.ref C) = true) (n2 : PySem.W.notFirst X.K C (.type "tuple") = true) (n3 : PySem.W.notFirst X.K C (.type "str") = true) :
    ∃ tb, PySem.W.Looks (model X.prog X.w) s.heap (typeOf u) tb ∧ PySem.W.notFirst X.K C tb = true := by
  rcases h with ⟨b, dx, fs, rfl, hb⟩ | ⟨b, xs, rfl, hb⟩ | ⟨z, rfl⟩
  · cases ry
    obtain ⟨mA, O, _⟩ := ins_get I.hok hb
    obtain ⟨od, J, _⟩ := O.look
    exact ⟨_, J.type, n1⟩
  · cases ry
    obtain ⟨_, _, _, o, h1, h2, _⟩ := (show ObjOk X.prog X.w H s.heap b (.tup xs) from I.hok b _ hb)
    refine ⟨.type "tuple", ?_, n2⟩
    rw [← h2]
    exact (PySem.W.Looks.ld h1).andThen .now
  · obtain ⟨t, rfl⟩ := (show ∃ t, u = Value.str z t from ry)
    exact ⟨.type "str", .now, n3⟩
theorem op_eqO (tk : Takes X W) (m : Meth X.K C "__eq__" f) (F : FnOk X.prog X.w X.K X.mg X.base (L2.CX X.prog X.w) k f fd ps sp) (hr : Room (k + 1) X.A) (hb : Binds X.K fd ps [])
    (n1 : PySem.W.notFirst X.K C (.ref C) = true) (n2 : PySem.W.notFirst X.K C (.type "tuple") = true) (n3 : PySem.W.notFirst X.K C (.type "str") = true) :
    OpR X (compareOp .Eq) (fun x y H Q => ∃ a dx fs, x = .ref a ∧ H a = some (.ins C dx fs) ∧ Cb C y H ∧ ∀ E, sp [.ref a, y] H (fun v H' => ∃ t : Bool, v = .bl t ∧ Q (.bl t) H') E) := by
  intro pins s σ H x y v u Q I rx ry h
  obtain ⟨a, dx, fs, rfl, ha, hc, hsp⟩ := h
  cases rx
  obtain ⟨mA, O, _⟩ := ins_get I.hok ha
  obtain ⟨od, J, _⟩ := O.look
  obtain ⟨mm, hF⟩ := I.fr
  obtain ⟨tb, l1, l2⟩ := cb_type I ry hc n1 n2 n3
  show wpAny (model X.prog X.w) X.A (richCompare .Eq (.ref a) u) (EP X pins σ Q) X.xe s
  refine PySem.W.cmp_K (op := .Eq) hr.units0 hF I.ok.mod.kin J l1 l2 m.at_ m.fn (wpAny_mono (run_fnA (E := WE W) (vs := [.ref a, y]) F (hr.mono (Nat.le_succ _)) rfl hb (passAt tk σ) I (.cons rfl (.cons ry .nil)) (hsp _)) (fun r s' hq => ?_) fun _ _ e => e)
  obtain ⟨z, H', I', rz, t, rfl, q⟩ := hq
  cases (show r = Value.bool t from rz)
  exact ⟨.bl t, H', I', rfl, q⟩
theorem op_neO (tk : Takes X W) (m : Meth X.K C "__eq__" f) (F : FnOk X.prog X.w X.K X.mg X.base (L2.CX X.prog X.w) k f fd ps sp) (hr : Room (k + 1) X.A) (hb : Binds X.K fd ps [])
    (n1 : PySem.W.notFirst X.K C (.ref C) = true) (n2 : PySem.W.notFirst X.K C (.type "tuple") = true) (n3 : PySem.W.notFirst X.K C (.type "str") = true)
    (hne : PySem.W.findIn X.K (.ref C) "__ne__" = some (some (.builtin "object.__ne__"))) (hmro : PySem.W.mroIn X.K C (.type "object") = some true) :
    OpR X (compareOp .NotEq) (fun x y H Q => ∃ a dx fs, x = .ref a ∧ H a = some (.ins C dx fs) ∧ Cb C y H ∧ ∀ E, sp [.ref a, y] H (fun v H' => ∃ t : Bool, v = .bl t ∧ Q (.bl (!t)) H') E) := by
  intro pins s σ H x y v u Q I rx ry h
  obtain ⟨a, dx, fs, rfl, ha, hc, hsp⟩ := h
  cases rx
  obtain ⟨mA, O, _⟩ := ins_get I.hok ha
  obtain ⟨od, J, _⟩ := O.look
  obtain ⟨tb, l1, l2⟩ := cb_type I ry hc n1 n2 n3
  show wpAny (model X.prog X.w) X.A (richCompare .NotEq (.ref a) u) (EP X pins σ Q) X.xe s
  refine PySem.W.rx_ne (by have := hr.units; omega) I.kIn J l1 l2 hne hmro m.at_ m.fn (wpAny_mono (run_fnA (E := WE W) (vs := [.ref a, y]) F hr.in1 rfl hb (passAt tk σ) I (.cons rfl (.cons ry .nil)) (hsp _)) (fun r s' hq => ?_) fun _ _ e => e)
  obtain ⟨z, H', I', rz, t, rfl, q⟩ := hq
  cases (show r = Value.bool t from rz)
  exact ⟨t, rfl, .bl (!t), H', I', rfl, q⟩
end
end L2
namespace Rx
open PySem L2
section
variable {X : Cx} {G : Cg} {a b e o : Expr} {es : List Expr} {da db de do_ : Ex} {des : Exs} {pos apos ps : Pos}
/-- one object's method, called -/
theorem own_sp {fid : Nat} {ok : D → Bool} {σ : St} {H : Hp} {Q : VK} (hK : G.K = X.K) (h : tD G (dOwn fid ok do_) σ H Q) :
    tD G do_ σ H fun v H1 => ∃ a dx fs, v = .ref a ∧ H1 a = some (.ins G.C dx fs) ∧ ∀ E, spOf X.K G.C G.ec G.c fid 1 [.ref a] H1 (fun u H2 => ∃ d A F, ok d = true ∧ Rt G.K A F u d ∧ Q u H2) E := by
  obtain ⟨A, F, r, w, x, w', rel, e, post⟩ := h
  unfold dOwn at e
  cases h1 : do_ G.c r w with
  | none => rw [h1] at e; cases e
  | some pr =>
    obtain ⟨x1, w1⟩ := pr
    rw [h1] at e
    cases x1 with
    | exc y => cases e; exact ⟨A, F, r, w, .exc y, _, rel, h1, post⟩
    | val d =>
      simp only at e
      cases hi : isO d with
      | none => rw [hi] at e; cases e
      | some i =>
        rw [hi] at e
        simp only at e
        have hd := isO_eq hi
        subst hd
        refine ⟨A, F, r, w, .val (dObj i), w1, rel, h1, fun v A1 F1 H1 s1 o1 r1 => ?_⟩
        obtain ⟨a, hA, rfl⟩ := r1.obj
        obtain ⟨fs, dx, vs, hw, hH, hF, hR⟩ := o1.obj hA
        refine ⟨a, dx, vs, rfl, hH, fun E => ?_⟩
        cases h2 : G.c fid [dObj i] w1 with
        | none => rw [h2] at e; cases e
        | some pr =>
          obtain ⟨x2, w2⟩ := pr
          rw [h2] at e
          cases x2 with
          | exc y => cases e
          | val d =>
            simp only at e
            split at e
            · rename_i hok
              cases e
              refine ⟨A1, F1, [dObj i], w1, .val d, _, rfl, ?_, s1.fh, o1, h2, fun u A2 F2 H2 s2 o2 r2 => ?_⟩
              · rw [← hK]; exact .cons r1 .nil
              · rw [← hK] at r2
                exact ⟨d, A2, F2, hok, r2, post u A2 F2 H2 (s1.trans s2) o2 r2⟩
            · cases e
theorem pd_lenO {k fid : Nat} (hst : starEach [o] X.env = (false, eval o X.env) :: starEach [] X.env) (hK : G.K = X.K) (tk : Takes X G.W) (Fn : CalleeM X.prog X.w X.K X.mg X.base G.C G.ec G.c k "__len__" fid 1) (hr : Room (k + 1) X.A) (hg : Gl X "len") (hm : X.mg "len" = none) (ho : PE X o (tD G do_)) :
    PE X (.Call (.Name "len" ps) [o] [] pos) (tD G (dOwn fid isLenV do_)) := by
  obtain ⟨f, fd, ps, hp, hme, hM, hb, fn⟩ := Fn
  refine peI (pe_callB (call_lenO tk hme fn hr hb) hg hm (by decide +kernel) (pa_cons ho pa_nil hst) (by decide) (by decide) hst rfl) fun σ H Q h => tD_imp (own_sp hK h) fun v H1 q => ?_
  obtain ⟨a, dx, fs, rfl, hH, hsp⟩ := q
  refine ⟨a, dx, fs, rfl, hH, fun E => ?_⟩
  obtain ⟨A, F, ds, w, x, w', h1, h2, h3, h4, h5, h6⟩ := hsp E
  refine ⟨A, F, ds, w, x, w', h1, h2, h3, h4, h5, ?_⟩
  cases x with
  | exc y => exact h6
  | val d =>
    intro u A' F' H' s' o' r'
    obtain ⟨d2, A2, F2, hok, rt, q⟩ := h6 u A' F' H' s' o' r'
    unfold isLenV at hok
    split at hok
    · rename_i n
      simp only [Bool.and_eq_true, decide_eq_true_eq] at hok
      have hu : u = .int n := Ro.int (H := H') (.inl rt)
      subst hu
      exact ⟨n, rfl, hok.1, by omega, q⟩
    · cases hok
theorem pd_strO {k fid : Nat} (hst : starEach [o] X.env = (false, eval o X.env) :: starEach [] X.env) (hK : G.K = X.K) (tk : Takes X G.W) (Fn : CalleeM X.prog X.w X.K X.mg X.base G.C G.ec G.c k "__str__" fid 1) (hr : Room (k + 2) X.A) (hg : Gl X "str") (hm : X.mg "str" = none) (ho : PE X o (tD G do_)) :
    PE X (.Call (.Name "str" ps) [o] [] pos) (tD G (dOwn fid isStr do_)) := by
  obtain ⟨f, fd, ps, hp, hme, hM, hb, fn⟩ := Fn
  refine peI (pe_callTy (call_strO tk hme fn hr hb) hg hm (by decide +kernel) (pa_cons ho pa_nil hst) (by decide) (by decide) hst rfl) fun σ H Q h => tD_imp (own_sp hK h) fun v H1 q => ?_
  obtain ⟨a, dx, fs, rfl, hH, hsp⟩ := q
  refine ⟨a, dx, fs, rfl, hH, fun E => ?_⟩
  obtain ⟨A, F, ds, w, x, w', h1, h2, h3, h4, h5, h6⟩ := hsp E
  refine ⟨A, F, ds, w, x, w', h1, h2, h3, h4, h5, ?_⟩
  cases x with
  | exc y => exact h6
  | val d =>
    intro u A' F' H' s' o' r'
    obtain ⟨d2, A2, F2, hok, rt, q⟩ := h6 u A' F' H' s' o' r'
    unfold isStr at hok
    split at hok
    · rename_i n
      have hu : u = .str n := Ro.str (H := H') (.inl rt)
      subst hu
      exact ⟨n, rfl, q⟩
    · cases hok
theorem cb_of {K : PySem.W.Frag} {C : Addr} {A : List Addr} {F H : Hp} {w : Om} {v : V} {d : D} (s : Same F H) (om : Omg C A F H w) (r : Rt K A F v d) (h : cmpAble d = true) : Cb C v H := by
  unfold cmpAble at h
  rw [Bool.or_eq_true, Bool.or_eq_true] at h
  rcases h with (h | h) | h
  · obtain ⟨i, hi⟩ := Option.isSome_iff_exists.mp h
    have := isO_eq hi
    subst this
    obtain ⟨a, hA, rfl⟩ := r.obj
    obtain ⟨_, dx, vs, _, hH, _⟩ := om.obj hA
    exact .inl ⟨a, dx, vs, rfl, hH⟩
  · unfold isStr at h
    split at h
    · exact .inr (.inr ⟨_, Ro.str (H := H) (.inl r)⟩)
    · cases h
  · unfold isTup at h
    split at h
    · obtain ⟨a, vs, rfl, f1, _⟩ := Ro.tup (H := H) (.inl r)
      exact .inr (.inl ⟨a, vs, rfl, s _ _ f1⟩)
    · cases h
theorem eq_sp {fid : Nat} {neg : Bool} {σ : St} {H : Hp} {Q : VK} (hK : G.K = X.K) (h : tD G (dEqO fid neg da db) σ H Q) :
    tD G da σ H fun v H1 => tD G db σ H1 fun u H2 => ∃ a dx fs, v = .ref a ∧ H2 a = some (.ins G.C dx fs) ∧ Cb G.C u H2 ∧ ∀ E, spOf X.K G.C G.ec G.c fid 2 [.ref a, u] H2 (fun z H3 => ∃ t : Bool, z = .bl t ∧ Q (.bl (xor neg t)) H3) E := by
  obtain ⟨A, F, r, w, x, w', rel, e, post⟩ := h
  unfold dEqO at e
  cases h1 : da G.c r w with
  | none => rw [h1] at e; cases e
  | some pr =>
    obtain ⟨x1, w1⟩ := pr
    rw [h1] at e
    cases x1 with
    | exc y => cases e; exact ⟨A, F, r, w, .exc y, _, rel, h1, post⟩
    | val d =>
      simp only at e
      refine ⟨A, F, r, w, .val d, w1, rel, h1, fun v A1 F1 H1 s1 o1 r1 => ?_⟩
      cases h2 : db G.c r w1 with
      | none => rw [h2] at e; cases e
      | some pr =>
        obtain ⟨x2, w2⟩ := pr
        rw [h2] at e
        cases x2 with
        | exc y => cases e; exact ⟨A1, F1, r, w1, .exc y, _, rel.step s1 o1, h2, fun cls dd A2 F2 H2 s2 o2 q => post cls dd A2 F2 H2 (s1.trans s2) o2 q⟩
        | val d2 =>
          simp only at e
          refine ⟨A1, F1, r, w1, .val d2, w2, rel.step s1 o1, h2, fun u A2 F2 H2 s2 o2 r2 => ?_⟩
          cases hi : isO d with
          | none => rw [hi] at e; cases e
          | some i =>
            rw [hi] at e
            simp only at e
            have hd := isO_eq hi
            subst hd
            have r1' := r1.step s2
            obtain ⟨a, hA, rfl⟩ := r1'.obj
            obtain ⟨fs, dx, vs, hw, hH, hF, hR⟩ := o2.obj hA
            split at e
            · rename_i hcm
              refine ⟨a, dx, vs, rfl, hH, cb_of s2.fh o2 r2 hcm, fun E => ?_⟩
              cases h3 : G.c fid [dObj i, d2] w2 with
              | none => rw [h3] at e; cases e
              | some pr =>
                obtain ⟨x3, w3⟩ := pr
                rw [h3] at e
                cases x3 with
                | exc y => cases e
                | val d3 =>
                  cases d3 with
                  | bool t =>
                    cases e
                    refine ⟨A2, F2, [dObj i, d2], w2, .val (.bool t), _, rfl, ?_, s2.fh, o2, h3, fun z A3 F3 H3 s3 o3 r3 => ?_⟩
                    · rw [← hK]; exact .cons r1' (.cons r2 .nil)
                    · have hz : z = .bl t := Ro.bl (H := H3) (.inl r3)
                      subst hz
                      exact ⟨t, rfl, post _ A3 F3 H3 ((s1.trans s2).trans s3) o3 (.inl (.bl _))⟩
                  | _ => cases e
            · cases e
theorem pd_eqO {k fid : Nat} (hK : G.K = X.K) (tk : Takes X G.W) (W : Wk X.K X.mg G.C) (Fn : CalleeM X.prog X.w X.K X.mg X.base G.C G.ec G.c k "__eq__" fid 2) (hr : Room (k + 1) X.A) (ha : PE X a (tD G da)) (hb : PE X b (tD G db)) (hmk : behindInMarks .Eq b = false) :
    PE X (.Compare a [.Eq] [b] pos) (tD G (dEqO fid false da db)) := by
  obtain ⟨f, fd, ps, hp, hme, hM, hbi, fn⟩ := Fn
  refine peI (pe_cmpR (op_eqO tk hme fn hr hbi W.nfO W.nfT W.nfS) ha hb hmk) fun σ H Q h => tD_imp (eq_sp hK h) fun v H1 q => tD_imp q fun u H2 q2 => ?_
  obtain ⟨a, dx, fs, rfl, hH, hc, hsp⟩ := q2
  refine ⟨a, dx, fs, rfl, hH, hc, fun E => ?_⟩
  have := hsp E
  simpa using this
theorem pd_neO {k fid : Nat} (hK : G.K = X.K) (tk : Takes X G.W) (W : Wk X.K X.mg G.C) (Fn : CalleeM X.prog X.w X.K X.mg X.base G.C G.ec G.c k "__eq__" fid 2) (hr : Room (k + 1) X.A) (ha : PE X a (tD G da)) (hb : PE X b (tD G db)) (hmk : behindInMarks .NotEq b = false) :
    PE X (.Compare a [.NotEq] [b] pos) (tD G (dEqO fid true da db)) := by
  obtain ⟨f, fd, ps, hp, hme, hM, hbi, fn⟩ := Fn
  refine peI (pe_cmpR (op_neO tk hme fn hr hbi W.nfO W.nfT W.nfS W.ne W.kmro) ha hb hmk) fun σ H Q h => tD_imp (eq_sp hK h) fun v H1 q => tD_imp q fun u H2 q2 => ?_
  obtain ⟨a, dx, fs, rfl, hH, hc, hsp⟩ := q2
  refine ⟨a, dx, fs, rfl, hH, hc, fun E => ?_⟩
  have := hsp E
  simpa using this
theorem pd_isO {p2 : Pos} (W : Wk X.K X.mg G.C) (hg : Gl X "isinstance") (hm : X.mg "isinstance" = none) (hgx : Gl X "Worker") (ha : PE X a (tD G da)) (hst : starEach [a, .Name "Worker" p2] X.env = (false, eval a X.env) :: starEach [.Name "Worker" p2] X.env) :
    PE X (.Call (.Name "isinstance" ps) [a, .Name "Worker" p2] [] pos) (tD G (dIsO da)) := by
  have hc : PE X (.Name "Worker" p2) (tC (.ref G.C)) := pe_glob hgx W.glo rfl (by decide)
  refine peI (pe_callB call_isi hg hm (by decide +kernel) (pa_cons ha (pa_cons hc pa_nil rfl) hst) (by decide) (by decide) hst rfl) fun σ H Q ⟨A, F, r, w, x, w', rel, e, post⟩ => ?_
  unfold dIsO at e
  cases h1 : da G.c r w with
  | none => rw [h1] at e; cases e
  | some pr =>
    obtain ⟨x1, w1⟩ := pr
    rw [h1] at e
    cases x1 with
    | exc y => cases e; exact ⟨A, F, r, w, .exc y, _, rel, h1, post⟩
    | val d =>
      simp only at e
      split at e
      · rename_i hcm
        cases e
        refine ⟨A, F, r, w, .val d, _, rel, h1, fun v A1 F1 H1 s1 o1 r1 => ?_⟩
        have fin := fun t => post (.bl t) A1 F1 H1 s1 o1
        unfold cmpAble at hcm
        rw [Bool.or_eq_true, Bool.or_eq_true] at hcm
        rcases hcm with (h | h) | h
        · obtain ⟨i, hi⟩ := Option.isSome_iff_exists.mp h
          have := isO_eq hi
          subst this
          obtain ⟨a, hA, rfl⟩ := r1.obj
          obtain ⟨_, dx, vs, _, hH, _⟩ := o1.obj hA
          refine ⟨_, _, _, _, true, rfl, .own _, .base (.ins hH W.cls W.kcls W.kget W.ktak W.kmro), W.isO, fin true (.inl ?_)⟩
          rw [hi]; exact .bl _
        · cases d with
          | str z =>
            have hv : v = .str z := Ro.str (H := H1) (.inl r1)
            subst hv
            exact ⟨_, _, _, _, false, rfl, .own _, .base (.str z), W.isS, fin false (.inl (.bl _))⟩
          | _ => cases h
        · cases d with
          | tuple ds =>
            obtain ⟨a, vs, rfl, f1, _⟩ := Ro.tup (H := H1) (.inl r1)
            exact ⟨_, _, _, _, false, rfl, .own _, .base (.tup (s1.fh _ _ f1)), W.isT, fin false (.inl (.bl _))⟩
          | _ => cases h
      · cases e
end
end Rx

set_option Elab.async false
set_option linter.all false
set_option maxRecDepth 100000
set_option maxHeartbeats 1000000
set_option autoImplicit false
/-! RxS26: a program's defs and methods, by number; the end of a law with workers. -/
namespace Rx
open PySem L2
section
variable {X : Cx} {G : Cg} {a b : Expr} {da db : Ex} {pos : Pos}
theorem dEqO_bool {fid : Nat} {neg : Bool} : ∀ c r w d w', dEqO fid neg da db c r w = some (.val d, w') → ∃ b, d = .bool b := by
  intro c r w d w' h
  unfold dEqO at h
  split at h
  · cases h
  · cases h
  · split at h
    · cases h
    · cases h
    · split at h
      · cases h
      · split at h
        · split at h
          · cases h; exact ⟨_, rfl⟩
          · cases h
        · cases h
theorem ptd_eqO {k fid : Nat} (hK : G.K = X.K) (tk : Takes X G.W) (W : Wk X.K X.mg G.C) (Fn : CalleeM X.prog X.w X.K X.mg X.base G.C G.ec G.c k "__eq__" fid 2) (hr : Room (k + 1) X.A) (ha : PE X a (tD G da)) (hb : PE X b (tD G db)) (hmk : behindInMarks .Eq b = false) :
    PT X (.Compare a [.Eq] [b] pos) (tT G (dEqO fid false da db)) := by
  obtain ⟨f, fd, ps, hp, hme, hM, hbi, fn⟩ := Fn
  refine pt_bool dEqO_bool (fun σ H Q h => tD_imp (eq_sp hK h) fun v H1 q => tD_imp q fun u H2 q2 => ?_) (pt_cmpR (op_eqO tk hme fn hr hbi W.nfO W.nfT W.nfS) ha hb hmk)
  obtain ⟨a, dx, fs, rfl, hH, hc, hsp⟩ := q2
  refine ⟨a, dx, fs, rfl, hH, hc, fun E => ?_⟩
  have := hsp E
  simpa using this
theorem ptd_neO {k fid : Nat} (hK : G.K = X.K) (tk : Takes X G.W) (W : Wk X.K X.mg G.C) (Fn : CalleeM X.prog X.w X.K X.mg X.base G.C G.ec G.c k "__eq__" fid 2) (hr : Room (k + 1) X.A) (ha : PE X a (tD G da)) (hb : PE X b (tD G db)) (hmk : behindInMarks .NotEq b = false) :
    PT X (.Compare a [.NotEq] [b] pos) (tT G (dEqO fid true da db)) := by
  obtain ⟨f, fd, ps, hp, hme, hM, hbi, fn⟩ := Fn
  refine pt_bool dEqO_bool (fun σ H Q h => tD_imp (eq_sp hK h) fun v H1 q => tD_imp q fun u H2 q2 => ?_) (pt_cmpR (op_neO tk hme fn hr hbi W.nfO W.nfT W.nfS W.ne W.kmro) ha hb hmk)
  obtain ⟨a, dx, fs, rfl, hH, hc, hsp⟩ := q2
  refine ⟨a, dx, fs, rfl, hH, hc, fun E => ?_⟩
  have := hsp E
  simpa using this
end
def clsBody : Stmt → List Stmt
  | .ClassDef _ _ _ b _ _ _ _ _ _ _ => b
  | _ => []
structure Dg where
  st : Stmt
  x : Str
  q : Str
  cls : Bool
  N : List Str
  ps : List Str
  M : List Nat
  body : Sx
def tbG (L : List (Nat × Dg)) : Tb := fun i => (L.lookup i).map fun d => ⟨d.ps.length, d.N.length, d.body⟩
section
variable (P : Program) (w : World) (K : PySem.W.Frag) (mg : Str → Option Value) (base : Heap) (C : Addr) (ec : Nat → Option Value)
def BodyG (c : Cf) (k : Nat) (d : Dg) : Prop := ∀ (f : Addr) (cdv : Value) (A : Around) (outer : List PySem.Env) (s : Shared) (H : Hp) (E : XK) (A0 : List Addr) (F0 : Hp), Room k (A.deeper (PyProof.Rows.envOfC d.q (defScope d.st) s.heap.objs.size f cdv)) →
  PSs (cxOf (L2.CX P w) P w K mg base d.N d.q (defScope d.st) f cdv A outer s H E) (defBody d.st) (tS ⟨K, C, d.M, fun cls dd _ H' => E cls dd H', c, ec, A0, F0, H⟩ d.body)
def AllG (p : Dg → Prop) : List (Nat × Dg) → Prop
  | [] => True
  | d :: r => p d.2 ∧ AllG p r
theorem AllG.at_ {p : Dg → Prop} : ∀ {L : List (Nat × Dg)} {i : Nat} {d : Dg}, AllG p L → L.lookup i = some d → p d
  | [], _, _, _, h => by cases h
  | (j, e) :: r, i, d, a, h => by
    rw [List.lookup_cons] at h
    split at h
    · cases h; exact a.1
    · exact AllG.at_ (L := r) (i := i) a.2 h
/-- where a def or a method stands -/
def Stands (d : Dg) (f : Addr) : Prop := if d.cls = true then Meth K C d.x f ∧ (d.x = "__init__" → Mk K C f) else mg d.x = some (.ref f)
def FunG (d : Dg) : Prop := ∃ (f : Addr) (fd : FuncData), Stands K mg C d f ∧ FunD K d.x d.q (defArgs d.st) (defBody d.st) (defScope d.st) [] [] f fd ∧ Binds K fd d.ps []
variable {P w K mg base C ec}
theorem allG {L : List (Nat × Dg)} (hF : AllG (FunG K mg C) L)
    (hS : AllG (fun d => FnScope d.N d.ps (defScope d.st) ∧ d.ps.length ≤ d.N.length ∧ ∀ i, i < d.ps.length → d.M.contains i = false) L)
    (hB : ∀ (c : Cf) (k : Nat), (∀ (j : Nat) (e : Dg), L.lookup j = some e → e.cls = false → Callee P w K mg base C ec c (k + 3) e.x j e.ps.length) →
      (∀ (j : Nat) (e : Dg), L.lookup j = some e → e.cls = true → CalleeM P w K mg base C ec c k e.x j e.ps.length) → AllG (BodyG P w K mg base C ec c (k + 3)) L) :
    ∀ (n i : Nat) (d : Dg), L.lookup i = some d → ∀ (f : Addr) (fd : FuncData), FunD K d.x d.q (defArgs d.st) (defBody d.st) (defScope d.st) [] [] f fd → FnOk P w K mg base (L2.CX P w) (4 * n) f fd d.ps (spOf K C ec (run (tbG L) n) i d.ps.length) := by
  intro n
  induction n with
  | zero =>
    intro i d h f fd _
    refine ⟨fun vs H Q E q => ?_, fun A outer s H args us vs Q E _ _ _ _ q => ?_⟩
    · obtain ⟨_, _, _, _, _, _, hl, _⟩ := q; exact hl
    · obtain ⟨_, _, _, _, _, _, _, _, _, _, hr, _⟩ := q; cases hr
  | succ n ih =>
    intro i d h f fd e2
    obtain ⟨s1, s2, s3⟩ := hS.at_ h
    have c1 : ∀ (j : Nat) (e : Dg), L.lookup j = some e → e.cls = false → Callee P w K mg base C ec (run (tbG L) n) (4 * n + 3) e.x j e.ps.length := fun j e hj hc => by
      obtain ⟨f, fd, q1, q2, q3⟩ := hF.at_ hj
      unfold Stands at q1
      rw [hc, if_neg (by decide)] at q1
      exact ⟨f, fd, e.ps, rfl, q1, q2.kp, q3, (ih j e hj f fd q2).mono (by omega)⟩
    have c2 : ∀ (j : Nat) (e : Dg), L.lookup j = some e → e.cls = true → CalleeM P w K mg base C ec (run (tbG L) n) (4 * n) e.x j e.ps.length := fun j e hj hc => by
      obtain ⟨f, fd, q1, q2, q3⟩ := hF.at_ hj
      unfold Stands at q1
      rw [hc, if_pos rfl] at q1
      exact ⟨f, fd, e.ps, rfl, q1.1, q1.2, q3, ih j e hj f fd q2⟩
    have b := (hB _ (4 * n) c1 c2).at_ h
    refine fn_ok (c := run (tbG L) n) (k := 4 * n + 3) e2 s1 rfl rfl s2 s3 (fun ds w0 x w' hr => ?_) (fun cdv A outer s H E A0 F0 hr => b f cdv A outer s H E A0 F0 hr)
    have ht : tbG L i = some ⟨d.ps.length, d.N.length, d.body⟩ := by unfold tbG; rw [h]; rfl
    unfold run at hr
    rw [ht] at hr
    simp only at hr
    split at hr
    · rename_i hq; exact ⟨hq.1, hr⟩
    · cases hr
end
/-- what the law's def gives, of every script -/
theorem law_endG {L : List (Nat × Dg)} {n i : Nat} {K : PySem.W.Frag} {C : Addr} {ec : Nat → Option Value} (h : ∀ ns : List Int, ns.length ≤ 63 → ∃ w', run (tbG L) n i [dScript ns] [] = some (.val (.bool true), w')) :
    ∀ (H : Hp) (a : Addr) (ns : List Int), ns.length ≤ 63 → Only H → SqL K H a (ns.map V.int) → spOf K C ec (run (tbG L) n) i 1 [.ref a] H (fun v _ => v = .bl true) fun _ _ _ => False := by
  intro H a ns hl _ hS
  obtain ⟨w', e⟩ := h ns hl
  refine ⟨[], H, [dScript ns], [], .val (.bool true), w', rfl, .cons (.inr (.inr (.inl ⟨a, ns, rfl, rfl, hS⟩))) .nil, fun _ _ e => e, ⟨rfl, .nil, fun i a fs h => by simp at h⟩, e, fun v A' F' H' _ _ r => ?_⟩
  rcases r with r | ⟨_, _, e, _⟩ | ⟨_, _, e, _⟩ | ⟨_, _, e, _⟩
  · cases r; rfl
  · cases e
  · cases e
  · cases e
/-! ### what the head must say of the workers' class -/
def wkB (K : PySem.W.Frag) : Bool :=
  (He.Fa.cls "Worker").ok K && ((He.Fa.glo "Worker").ok K && ((He.Fa.noat "Worker" "size").ok K && ((He.Fa.noat "Worker" "row").ok K && ((He.Fa.noat "Worker" "kept").ok K && ((He.Fa.mkr "Worker").ok K &&
  (He.eqO (PySem.W.findIn K (.ref (He.ga K "Worker")) "__class__") (some (some (.builtin "object.__class__"))) && (He.eqO (PySem.W.specialIn K (.builtin "object.__class__") "__get__") (some (some (.builtin "getset_descriptor.__get__"))) &&
  (decide (PySem.W.takesIn K (.builtin "object.__class__") = some true) && (decide (PySem.W.mroIn K (He.ga K "Worker") (.type "object") = some true) && (decide (PySem.W.kitOne K (.ref (He.ga K "Worker")) (.ref (He.ga K "Worker")) = some true) &&
  (decide (PySem.W.kitOne K (.type "tuple") (.ref (He.ga K "Worker")) = some false) && (decide (PySem.W.kitOne K (.type "str") (.ref (He.ga K "Worker")) = some false) && (PySem.W.notFirst K (He.ga K "Worker") (.ref (He.ga K "Worker")) &&
  (PySem.W.notFirst K (He.ga K "Worker") (.type "tuple") && (PySem.W.notFirst K (He.ga K "Worker") (.type "str") && He.eqO (PySem.W.findIn K (.ref (He.ga K "Worker")) "__ne__") (some (some (.builtin "object.__ne__"))))))))))))))))))
theorem wkB_ok {K : PySem.W.Frag} {h : Heap} {mg : Str → Option Value} (X : K.In h) (G : h.Ns mainGlobals mg) (b : wkB K = true) : Wk K mg (He.ga K "Worker") ∧ Mk K (He.ga K "Worker") (He.ma K (He.ga K "Worker") "__init__") := by
  unfold wkB at b
  simp only [Bool.and_eq_true, decide_eq_true_eq] at b
  obtain ⟨b1, b2, b3, b4, b5, b6, b7, b8, b9, b10, b11, b12, b13, b14, b15, b16, b17⟩ := b
  refine ⟨⟨He.cls_ok b1, He.glo_ok X G b2, fun f hf => ?_, He.eqO_ok b7, He.eqO_ok b8, b9, b10, b11, b12, b13, b14, b15, b16, He.eqO_ok b17⟩, He.mkr_ok b6⟩
  rcases hf with rfl | rfl | rfl
  · exact He.noat_ok b3
  · exact He.noat_ok b4
  · exact He.noat_ok b5
def hookG (n : Nat) (fa : List He.Fa) (fn : List He.DefD) (xs : List (Nat × Str)) (ex : PySem.W.Frag → Bool) : PySem.W.Hook where
  α := He.AlD × Bool × Bool
  obs := fun s => (He.obsDG n fa fn s.heap.get?, xsOk (He.frG s.heap.get? (He.asD s.heap.get? n)) xs, ex (He.frG s.heap.get? (He.asD s.heap.get? n)))
  val := fun _ => (He.valD fn, true, true)
  says := fun _ h => ∃ K : PySem.W.Frag, K.In h ∧ He.SaysD fa fn K ∧ xsOk K xs = true ∧ ex K = true
  of := fun _ s e => ⟨He.frG s.heap.get? (He.asD s.heap.get? n), He.frG_in, congrArg Prod.fst e, congrArg (fun z => z.2.1) e, congrArg (fun z => z.2.2) e⟩
  keeps := fun _ _ _ ⟨K, hK, c⟩ k => ⟨K, PySem.W.Frag.In.keeps hK k, c⟩
def obG (n : Nat) (fa : List He.Fa) (fn : List He.DefD) (xs : List (Nat × Str)) (ex : PySem.W.Frag → Bool) (s : PySem.W.SharedT) : He.AlD × Bool × Bool := (He.obsDG n fa fn (HandSHeadRun.getT s), xsOk (He.frG (HandSHeadRun.getT s) (He.asD (HandSHeadRun.getT s) n)) xs, ex (He.frG (HandSHeadRun.getT s) (He.asD (HandSHeadRun.getT s) n)))
theorem obG_eq {n : Nat} {fa : List He.Fa} {fn : List He.DefD} {xs : List (Nat × Str)} {ex : PySem.W.Frag → Bool} (s : PySem.W.SharedT) : obG n fa fn xs ex s = (hookG n fa fn xs ex).obs s.abs := by
  have e : HandSHeadRun.getT s = s.abs.heap.get? := funext (HandSHeadRun.getT_eq s)
  unfold obG
  rw [e]
  rfl
/-! ### isinstance(e, ValueError) -/
def veB (K : PySem.W.Frag) (xs : List (Nat × Str)) : Bool := xs.all fun p => decide (PySem.W.kitOne K (.ref (He.ga K p.2)) (.type "ValueError") = some true)
def VeAll (K : PySem.W.Frag) (ec : Nat → Option Value) : Prop := ∀ j cls, ec j = some cls → PySem.W.kitOne K cls (.type "ValueError") = some true
theorem veB_ok {K : PySem.W.Frag} {xs : List (Nat × Str)} (h : veB K xs = true) : VeAll K (ecOf K xs) := fun j cls hj => by
  unfold ecOf at hj
  cases hx : xs.lookup j with
  | none => rw [hx] at hj; cases hj
  | some y =>
    rw [hx] at hj; cases hj
    have := List.all_eq_true.mp h (j, y) (lookup_mem hx)
    exact of_decide_eq_true this
end Rx

set_option Elab.async false
set_option linter.all false
set_option maxRecDepth 100000
set_option maxHeartbeats 1000000
set_option autoImplicit false
/-! RxS27: t[::-1]; `except x as e: return isinstance(e, ValueError)`. -/
namespace HT
open PySem PySem.Spec PyProof.Rows
section
variable {prog : Program} {w : World} {A : Around} {E : Value → Shared → Prop} {s : Shared}
theorem rx_adjust (n : Nat) : Builtin.Slice.sliceAdjust none none (-1) (n : Int) = ((n : Int) - 1, -1) := by
  unfold Builtin.Slice.sliceAdjust
  simp
theorem rx_places (n : Nat) : Builtin.Slice.slicePlaces ((n : Int) - 1) (-1) (-1) = n := by
  unfold Builtin.Slice.slicePlaces
  have h1 : ¬ ((-1 : Int) > 0) := by omega
  simp only [h1, if_false]
  split
  · simp
  · omega
theorem rx_all {α : Type} : ∀ (l : List α), (List.range l.length).filterMap (fun m => l[m]?) = l := fun l => by
  induction l with
  | nil => rfl
  | cons x l ih =>
    rw [List.length_cons, List.range_succ_eq_map, List.filterMap_cons]
    simp only [List.getElem?_cons_zero, List.filterMap_map]
    congr 1
theorem rx_fm {α β : Type} {f g : α → Option β} : ∀ {l : List α}, (∀ x ∈ l, f x = g x) → l.filterMap f = l.filterMap g
  | [], _ => rfl
  | x :: l, h => by rw [List.filterMap_cons, List.filterMap_cons, h x List.mem_cons_self, rx_fm fun y hy => h y (List.mem_cons_of_mem _ hy)]
theorem rx_pick (xs : Array Value) : ((List.range xs.size).filterMap fun (m : Nat) => xs[(((xs.size : Int) - 1) + (m : Int) * (-1)).toNat]?).toArray = xs.toList.reverse.toArray := by
  have e : (List.range xs.size).filterMap (fun (m : Nat) => xs[(((xs.size : Int) - 1) + (m : Int) * (-1)).toNat]?) = (List.range xs.toList.reverse.length).filterMap (fun m => xs.toList.reverse[m]?) := by
    rw [List.length_reverse, Array.length_toList]
    apply rx_fm
    intro m hm
    have hm := List.mem_range.mp hm
    have h2 : (((xs.size : Int) - 1) + ((m : Nat) : Int) * (-1)).toNat = xs.size - 1 - m := by omega
    rw [h2, List.getElem?_reverse (by rw [Array.length_toList]; exact hm), Array.length_toList, Array.getElem?_toList]
  rw [e, rx_all]
theorem sliceApplied_rev {sl : Addr} {vs : Value} {n : Nat} {Q : Int × Int × Nat → Shared → Prop} (hs : s.heap.IsSliceOf sl .none .none vs) (ps : IsPart vs (some (-1)))
    (h : Q ((n : Int) - 1, -1, n) s) : wpAny (model prog w) A (Builtin.Slice.sliceApplied (.ref sl) (pure (n : Int))) Q E s := by
  obtain ⟨os, hos, hcs, hds⟩ := id hs
  unfold Builtin.Slice.sliceApplied Builtin.Slice.sliceFields
  refine wpAny_bind (wpAny_bind (wpAny_field hos hds (x := .none) rfl (wpAny_bind (wpAny_field hos hds (x := .none) rfl (wpAny_bind (wpAny_field hos hds (x := vs) rfl (wpAny_pure ?_)))))))
  refine wpAny_bind (slicePart_ ps ?_)
  show wpAny _ _ (if ((-1 : Int) == 0) = true then _ else _) _ _ s
  rw [if_neg (by decide)]
  refine wpAny_bind (slicePart_none (wpAny_bind (slicePart_none (wpAny_bind (wpAny_pure ?_)))))
  show wpAny _ _ (match Builtin.Slice.sliceAdjust none none (-1) (n : Int) with | (lo, hi) => pure (lo, (-1 : Int), Builtin.Slice.slicePlaces lo hi (-1))) _ _ s
  rw [rx_adjust]
  show wpAny _ _ (pure ((n : Int) - 1, (-1 : Int), Builtin.Slice.slicePlaces ((n : Int) - 1) (-1) (-1))) _ _ s
  rw [rx_places]
  exact wpAny_pure h
theorem getItem_tuple_rev {t sl : Addr} {items : Array Value} {vs : Value} {Q : Value → Shared → Prop} (ht : IsTup s.heap t items) (hs : s.heap.IsSliceOf sl .none .none vs) (ps : IsPart vs (some (-1)))
    (h : Q (.ref s.heap.objs.size) { s with heap := s.heap.push { cls := .type "tuple", data := .seq items.toList.reverse.toArray } })
    (hsz : items.size ≤ sizeLine) : wpAny (model prog w) A (getItem (.ref t) (.ref sl)) Q E s := by
  have htake : sizeOk (.seq items.toList.reverse.toArray) := by
    show items.toList.reverse.toArray.size ≤ sizeLine
    rw [List.size_toArray, List.length_reverse, Array.length_toList]
    exact hsz
  obtain ⟨os, hos, hcs, hds⟩ := id hs
  have hTs : s.TypeIs (.ref sl) "slice" := ⟨os, hos, hcs⟩
  unfold getItem
  try with_reducible refine wpAny_holding ?_
  first | refine wpAny_bind (wpAny_pure ?_) | skip
  refine wpAny_bind (wpAny_sequenceKey ht.typeIs (by decide) ?_)
  refine wpAny_bind (wpAny_callSpecial?_slot (name := Str.ofString "__getitem__") ht.typeIs PyProof.Rows.slot_tuple_getitem
    (wpAny_call_entry PyProof.Rows.slot_tuple_getitem ht.typeIs entry_tuple_getitem ?_ (args_tuple_getitem _ _)))
  show wpAny _ _ (Builtin.Tuple.tupleItemsOf (.ref t) >>= _) _ _ s
  refine wpAny_bind (tupleItemsOf_ ht ?_)
  refine wpAny_bind (wpAny_typeOf hTs ?_)
  rw [if_pos (by decide)]
  refine wpAny_bind (sliceApplied_rev hs ps ?_)
  have hno : ¬ (((((items.size : Nat) : Int) - 1) == 0 && (-1 : Int) == 1 && items.size == items.size) = true) := by
    intro q
    rw [Bool.and_eq_true, Bool.and_eq_true] at q
    exact absurd q.1.2 (by decide)
  show wpAny _ _ (if ((((items.size : Nat) : Int) - 1) == 0 && (-1 : Int) == 1 && items.size == items.size) = true then _ else _) _ _ s
  rw [if_neg hno, rx_pick]
  first
    | exact wpAny_bind (m := Builtin.Tuple.tupleExact _) (wpAny_newObj_type (wpAny_pure ⟨_, rfl, wpAny_pure h⟩) htake)
    | exact wpAny_bind (m := Builtin.Tuple.tupleExact _) (wpAny_newObj_type (wpAny_bind (wpAny_pure (wpAny_pure ⟨_, rfl, wpAny_pure h⟩))) htake)
    | exact wpAny_bind (wpAny_bind (m := Builtin.Tuple.tupleExact _) (wpAny_newObj_type (wpAny_pure (wpAny_pure ⟨_, rfl, wpAny_pure h⟩)) htake))
    | exact wpAny_bind (wpAny_bind (m := Builtin.Tuple.tupleExact _) (wpAny_newObj_type (wpAny_pure ⟨_, rfl, wpAny_pure h⟩) htake))
end
end HT
namespace L2
open PySem PySem.Spec PyProof.Rows
section
variable {X : Cx}
/-- x[::-1], a list or a tuple -/
def tRevA (K : PySem.W.Frag) (te : TE) : TE := fun σ H Q => te σ H fun x H1 => ∃ a xs, x = .ref a ∧ ((SqL K H1 a xs ∧ ∀ p, H1 p = none → Q (.ref p) (upd H1 p (.lst xs.reverse))) ∨ (SqT K H1 a xs ∧ ∀ p, H1 p = none → Q (.ref p) (upd H1 p (.tup xs.reverse))))
theorem pe_revA {e : Expr} {te : TE} {k : Nat} {p1 p2 p3 pos : Pos} (he : PE X e te) : PE X (.Subscript e (.Slice none none (some (.UnaryOp .USub (.Constant (.int 1) k p1) p2)) p3) pos) (tRevA X.K te) := by
  refine ⟨fun pins s σ H Q I h => ?_⟩
  refine Subscript_ (thn (he.run pins s σ H _ I h) fun v s1 ⟨x, H1, I1, r1, q1⟩ => ?_)
  obtain ⟨a, xs, ex, hx⟩ := q1
  subst ex
  cases r1
  have hst : PO X (some (.UnaryOp .USub (.Constant (.int 1) k p1) p2)) (tPart (tUn (rU fun i => .int (-i)) (tC (.int 1)))) := po_some (pe_un un_neg pe_int)
  refine wpAny_Slice (thn (po_none.run pins s1 σ H1 (fun o H2 => o = none ∧ H2 = H1) I1 ⟨rfl, rfl⟩) fun vl s2 ⟨l, H2, I2, pl, el, e2⟩ => ?_)
  subst el e2
  refine thn (po_none.run pins s2 σ H2 (fun o H3 => o = none ∧ H3 = H2) I2 ⟨rfl, rfl⟩) fun vu s3 ⟨u, H3, I3, pu, eu, e3⟩ => ?_
  subst eu e3
  refine thn (hst.run pins s3 σ H3 (fun o H4 => o = some (-1) ∧ H4 = H3) I3 ⟨1, rfl, -1, rfl, rfl, rfl⟩) fun vs s4 ⟨o, H4, I4, ps, eo, e4⟩ => ?_
  subst eo e4
  have I5 : Inv X pins σ H4 { s4 with heap := s4.heap.push { cls := .type "slice", data := .fields #[vl, vu, vs] } } := I4.kept (t' := s4.toks) fun b ob q => Heap.get?_push_of_some _ q
  rcases hx with ⟨hx, q⟩ | ⟨hx, q⟩
  · obtain ⟨its, r, ht, hz⟩ := I5.list hx
    have hlen := r.length
    show wpAny (model X.prog X.w) X.A (subscriptTail e (.Slice none none (some (.UnaryOp .USub (.Constant (.int 1) k p1) p2)) p3) (.ref a) (.ref s4.heap.objs.size)) (EP X pins σ Q) X.xe { s4 with heap := s4.heap.push { cls := .type "slice", data := .fields #[vl, vu, vs] } }
    refine tail_any (ops := [.ref a, .ref s4.heap.objs.size]) ht.isList.typeIs (PySem.slot_list_getitem.lookup) ?_ (by with_unfolding_all rfl)
    refine wpAny_getItem_list_slice ht.isList (Heap.IsSliceOf.new _ vl vu vs) pl pu ps (by decide) ?_ (by rw [List.size_toArray]; omega)
    rw [PySem.W.krv_pick]
    refine ⟨.ref _, _, I5.laid (t' := s4.toks) (o := .lst xs.reverse) (fun b ob q => Heap.get?_push_of_some _ q) (Nat.le_refl _) ?_, rfl, q _ (I5.hok.fresh (Nat.le_refl _))⟩
    exact ⟨by rw [List.length_reverse]; exact hz, _, 0, r.reverse, Heap.get?_push_size _ rfl⟩
  · obtain ⟨its, r, ht, hz⟩ := I5.tuple hx
    have hlen := r.length
    cases pl
    cases pu
    show wpAny (model X.prog X.w) X.A (subscriptTail e (.Slice none none (some (.UnaryOp .USub (.Constant (.int 1) k p1) p2)) p3) (.ref a) (.ref s4.heap.objs.size)) (EP X pins σ Q) X.xe { s4 with heap := s4.heap.push { cls := .type "slice", data := .fields #[.none, .none, vs] } }
    refine tail_any (ops := [.ref a, .ref s4.heap.objs.size]) ht.typeIs (PyProof.Rows.slot_tuple_getitem.lookup) ?_ (by with_unfolding_all rfl)
    refine HT.getItem_tuple_rev ht (Heap.IsSliceOf.new _ .none .none vs) ps ?_ (by rw [List.size_toArray]; omega)
    refine ⟨.ref _, _, I5.laid (t' := s4.toks) (o := .tup xs.reverse) (fun b ob q => Heap.get?_push_of_some _ q) (Nat.le_refl _) ?_, rfl, q _ (I5.hok.fresh (Nat.le_refl _))⟩
    exact ⟨by rw [List.length_reverse]; exact hz, _, r.reverse, IsTup.new _ _⟩
end
end L2
namespace Rx
open PySem L2
section
variable {X : Cx} {G : Cg} {a b : Expr} {da db : Ex} {pos : Pos} {xs : List (Nat × Str)}
theorem pd_rev {k : Nat} {p1 p2 p3 : Pos} (hK : G.K = X.K) (ha : PE X a (tO G da)) : PE X (.Subscript a (.Slice none none (some (.UnaryOp .USub (.Constant (.int 1) k p1) p2)) p3) pos) (tD G (dPrim .rev (dCons da dNil))) :=
  peI (pe_revA ha) fun σ H Q h => tO_imp (args1 (prim_args h)) fun x H1 k => by
    obtain ⟨A, F, w, ds, d, s, o, ro, e, f⟩ := k
    obtain ⟨d1, rfl, r1⟩ := RoAll1 ro
    replace e : revP d1 = some d := e
    unfold revP at e
    split at e
    · cases e
      obtain ⟨a1, v1, rfl, f1, q1⟩ := r1.tup
      exact ⟨a1, v1, rfl, .inr ⟨.inl (.inl (s _ _ f1)), fun p hp => f.tup s o hp q1.reverse⟩⟩
    · cases e
      obtain ⟨a1, v1, rfl, f1, q1⟩ := r1.lst s
      exact ⟨a1, v1, rfl, .inl ⟨.inl (.inl f1), fun p hp => f.lst s o hp q1.reverse⟩⟩
    · cases e
/-- `except x as n: return isinstance(n, ValueError)` -/
theorem hs_isV {i k : Nat} {n x : Str} {hs : List ExceptHandler} {gs : List (Nat × (Xn → Option D))} {p q q1 q2 q3 q4 q14 : Pos} (xa : XAll X.K X.mg G.ec xs) (ve : VeAll X.K G.ec)
    (hx : xs.lookup k = some x) (gx : Gl X x) (gi : X.env.kindOf "isinstance" = some .globalImplicit) (mi : X.mg "isinstance" = none) (gv : X.env.kindOf "ValueError" = some .globalImplicit) (mv : X.mg "ValueError" = none)
    (hi : X.N[i]? = some n) (hl : X.env.kindOf n = some .local) (hv : Vis X.env.scope n) (hd : (n == ("__debug__" : Str)) = false) (hcd : (n == ("__classdict__" : Str)) = false) (dx : (x == ("__debug__" : Str)) = false)
    (r : HsOk X G hs gs) :
    HsOk X G (.ExceptHandler (some (.Name x p)) (some n) [.Return (some (.Call (.Name "isinstance" q1) [.Name n q2, .Name "ValueError" q3] [] q4)) q14] q :: hs)
      ((k, fun e => some (.bool true)) :: gs) := by
  obtain ⟨C, a1, a2, _⟩ := xa.at_ k x hx
  refine .cons (c := .ref C) ⟨gx, dx, .inl a2⟩ (fun j cls hj => ?_) hi hl (fun a oe cls d pn hzc hfd => ?_) r
  · obtain ⟨_, D, rfl, _, h⟩ := xa.inv j cls hj
    exact (h k x _ hx a2).1
  · refine ⟨fun pins s σ H Dd I q => ?_⟩
    obtain ⟨A, F, w, z, r, sf, om, xr, e, hσ, na, post⟩ := q
    obtain ⟨_, D, rfl, ed, h⟩ := xa.inv _ cls xr.1
    have hdn : d = none := by
      rcases xr.2 with z | z
      · exact z.2
      · exact absurd z.1 (xa.inv _ _ xr.1).1
    subst hdn
    cases e
    have pe : PE (X.suite a ((a, oe) :: pn)) (.Call (.Name "isinstance" q1) [.Name n q2, .Name "ValueError" q3] [] q4) (tK i a (.bl true)) := by
      refine peI (pe_callB (call_isE ed hzc hfd) gi mi (by decide +kernel) (pa_cons (pk_name (a := a) hi hv hd hcd) (pa_cons (pe_bltn gv mv (u := .type "ValueError") (v := .ty "ValueError") (by decide +kernel) rfl (by decide) (by decide)) pa_nil rfl) rfl) (by decide) (by decide) rfl rfl) fun σ H Q q => ?_
      exact ⟨q.1, .ty "ValueError", .type "ValueError", true, rfl, fun _ e => e, ve _ _ xr.1, q.2⟩
    exact (pss_one (ps_ret pe)).run pins s σ H Dd I ⟨hσ, post (.bl true) A F H (.refl sf) om (.inl (.bl true))⟩
end
end Rx

set_option Elab.async false
set_option linter.all false
set_option maxRecDepth 100000
set_option maxHeartbeats 1000000
set_option autoImplicit false
/-! RxS28: an exception with a line. -/
namespace L2
open PySem PySem.Spec PyProof.Rows
/-- isinstance(e, c), e the exception that the suite holds, with its dict or without one -/
def rIsD (K : PySem.W.Frag) (D a : Addr) (d : Option Addr) : List V → Hp → VK → Prop := fun xs H Q => ∃ (c : V) (cv : Value) (b : Bool), xs = [.ref a, c] ∧ (∀ u, RelV c u → u = cv) ∧ PySem.W.kitOne K (.ref D) cv = some b ∧ (∀ dd, d = some dd → ∃ fs, H dd = some (.xd fs)) ∧ Q (.bl b) H
theorem call_isD {X : Cx} {a D : Addr} {oe : Obj} {d : Option Addr} {pn : List (Addr × Obj)} (C : ExcC X.K D) (hz : Zc (.ref D) d oe) (hf : ∃ vs, oe.data = .fields vs) : CallR (X.suite a ((a, oe) :: pn)) (.builtin "isinstance") (rIsD X.K D a d) := by
  intro pins s σ H xs us Q I r h
  obtain ⟨c, cv, b, rfl, hcv, e, hdd, q⟩ := h
  cases r with
  | cons rx rr =>
    cases rr with
    | cons rt rr =>
      cases rr
      cases rx
      have ec := hcv _ rt
      subst ec
      obtain ⟨hget, _⟩ := I.pin (a, oe) (List.mem_append.mpr (.inl List.mem_cons_self))
      obtain ⟨vs, hv⟩ := hf
      have J : ∃ od, PySem.W.InstAt s.heap a oe D od := by
        obtain ⟨oc, odd, oda, osl⟩ := oe
        obtain ⟨h1, h2⟩ := hz
        dsimp only at h1 h2 hv
        subst h1 h2 hv
        cases odd with
        | none => exact ⟨none, hget, rfl, rfl, trivial⟩
        | some dd =>
          obtain ⟨fs, hfs⟩ := hdd dd rfl
          have hx : ObjOk X.prog X.w H s.heap dd (.xd fs) := I.hok dd _ hfs
          obtain ⟨mA, hns, hr⟩ := hx
          obtain ⟨od, ho, hl⟩ := lookIn_ns hns
          exact ⟨some od, hget, rfl, rfl, ho⟩
      obtain ⟨od, J⟩ := J
      have hcl : (PySem.W.clsIn X.K D).isSome = true := by
        obtain ⟨cd, hc, _⟩ := PySem.W.any_some C.hd
        rw [hc]; rfl
      exact PySem.W.kia_one (PySem.W.kitx_exc hcl C.hg C.hk C.hs C.ha C.hn C.ht C.hm) I.kIn J e (fun z => nomatch z) fun tk => ⟨.bl b, H, I.kept (t' := tk) fun _ _ z => z, rfl, q⟩
section
variable {X : Cx} {e : Expr} {es : List Expr} {ta : TA} {p1 p2 pos : Pos}
/-- B.__init__(self, ..), B a class of the program over ValueError -/
theorem pe_xinit {pl : Sem Bool} {x : Str} {B : Addr} {mc : Value} (hg : Gl X x) (hm : X.mg x = some (.ref B)) (hga : PySem.W.specialIn X.K (.ref B) "__getattribute__" = some (some (.builtin "type.__getattribute__"))) (hrd : PySem.W.readsIn X.K B mc = true)
    (vV : PySem.W.findCls X.K (.ref B) mc "__init__" = some (.val (.builtin "ValueError.__init__"))) (ha : PA X (e :: es) ta) (hdb : (x == ("__debug__" : Str)) = false)
    (hc : eval (.Call (.Attribute (.Name x p1) "__init__" p2) (e :: es) [] pos) X.env = (do
      let ov ← eval (.Name x p1) X.env
      standAt p2.atName
      let (f, first) ← holding [ov] (getMethod ov "__init__" pl)
      callWith pos f first (backTo pos (starEach (e :: es) X.env)) (backToKw pos (keywordEach [] X.env))))
    (he : starEach (e :: es) X.env = (false, eval e X.env) :: starEach es X.env) (hpl : (backTo pos (starEach es X.env)).any (·.1) = false) :
    PE X (.Call (.Attribute (.Name x p1) "__init__" p2) (e :: es) [] pos) (tVeI X.K ta) := by
  refine ⟨fun pins s σ H Q I h => ?_⟩
  refine PySem.W.methodCall_KW (ld_glob I hg hm ?_ hdb) hc
  refine PySem.W.method_cls I.kIn hga (PySem.W.cls_value I.kIn hrd vV (by decide +kernel) ?_)
  show wpAny _ _ (callWith pos (Value.builtin "ValueError.__init__") [] (backTo pos (starEach (e :: es) X.env)) []) _ _ _
  refine PyProof.Rows.callWith_method1 (thn (ha.run pos pins _ σ H _ (I.tok _) h) fun us s1 ⟨vs, H1, I1, r1, a, C, ws, ev, hl, T, ea, q⟩ => ?_) he hpl
  subst ev
  cases r1 with
  | @cons _ u0 _ ur ra rw' =>
    obtain rfl : u0 = Value.ref a := ra
    have hlen : ur.length ≤ sizeLine := by
      rw [← Paired.length rw', sizeLine_eq]
      omega
    exact oinit_ok T I1 ea hlen fun s' J => ⟨.non, H1, J, rfl, q⟩
end
/-- what ParseError.__init__ promises -/
def spLine (C : Addr) : Sp := fun vs H Q _ => ∃ a y, vs = [.ref a, y] ∧ H a = some (exo a C none) ∧ ∀ dx, H dx = none → dx ≠ a → Q .non (upd (upd H dx (exd dx [("line", y)])) a (exo a C (some dx)))
end L2
namespace Rx
open PySem L2
/-- what the class with the line is -/
structure Pl (P : Program) (w : World) (K : PySem.W.Frag) (mg : Str → Option Value) (base : Heap) (ec : Nat → Option Value) (C : Addr) : Prop where
  T : OexC K C
  at_ : ec 1 = some (.ref C)
  g : mg "ParseError" = some (.ref C)
  no : PySem.W.findIn K (.ref C) "line" = some none
  xf : XfC K C
  fn : ∃ (fI : Addr) (fd : FuncData) (ps : List Str), PySem.W.findIn K (.ref C) "__init__" = some (some (.ref fI)) ∧ PySem.W.typeIn K (.ref fI) = some (.type "function") ∧ Binds K fd ps [] ∧ FnOk P w K mg base (L2.CX P w) 1 fI fd ps (spLine C)
theorem cx_no {P : Program} {w : World} {o : List PySem.Env} {H : Hp} {s : Shared} {e : Value} {s' : Shared} (h : L2.CX P w o H s (fun _ _ _ => False) e s') : False := by
  obtain ⟨_, _, _, _, _, _, _, _, _, _, _, _, z⟩ := h
  exact z
section
variable {X : Cx} {G : Cg} {e : Expr} {de : Ex} {pos : Pos}
theorem psd_raiseL {C : Addr} {p p3 : Pos} {k : Nat} (hc : X.calm = true) (tk : Takes X G.W) (pl : Pl X.prog X.w X.K X.mg X.base G.ec C) (hr : Room (k + 2) X.A) (hg : Gl X "ParseError") (he : PE X e (tD G de)) (hst : starEach [e] X.env = (false, eval e X.env) :: starEach [] X.env) :
    PS X (.Raise (some (.Call (.Name "ParseError" p) [e] [] p3)) none pos) (tS G (sRaiseL de)) := by
  obtain ⟨fI, fd, ps, i1, i2, i3, i4⟩ := pl.fn
  refine psI (ps_raise hc tk (pmk_oex (k := 1) pl.T i1 i2 i4 (hr.mono (by omega)) i3 .nil (fun _ _ _ _ _ _ _ h => (cx_no h).elim) hg pl.g (pa_cons he pa_nil hst) (by decide) hst rfl)) fun Dd σ H ⟨A, F, r, w, x, w', rs, e, post⟩ => ?_
  unfold sRaiseL at e
  cases h1 : de G.c r w with
  | none => rw [h1] at e; cases e
  | some pr =>
    obtain ⟨x1, w1⟩ := pr
    rw [h1] at e
    refine tD_of rs h1 (fun d hd v A1 F1 H1 s1 rs1 rt => ?_) (fun y hy cls dd A' F' H' rs' xr => ?_)
    · subst hd
      simp only at e
      split at e
      · rename_i hp
        cases e
        refine ⟨(show 1 ≤ 1000 by decide), fun a ha => ⟨a, v, by rw [List.append_nil], upd_same, fun dx hdx hne => ⟨rfl, dx, [("line", v)], upd_same, ?_, ?_, ?_⟩⟩⟩
        · rw [upd_ne hne, upd_same]
        · rw [upd_ne hne] at hdx; exact hdx
        · have hdx1 : H1 dx = none := by rw [upd_ne hne] at hdx; exact hdx
          have eH : upd (del (upd (upd (upd H1 a (exo a C none)) dx (exd dx [("line", v)])) a (exo a C (some dx))) a) dx (.xd [("line", v)]) = upd H1 dx (.xd [("line", v)]) := by
            funext b
            by_cases hb : b = dx
            · subst hb; rw [upd_same, upd_same]
            · rw [upd_ne hb, upd_ne hb]
              by_cases hba : b = a
              · subst hba; rw [del_same, ha]
              · rw [del_ne hba, upd_ne hba, upd_ne hb, upd_ne hba]
          rw [eH]
          have rv : Rp F1 v d := rt.plain hp
          have st : Step A1 F1 H1 A1 F1 (upd H1 dx (.xd [("line", v)])) := .newO rs1.rel.fh hdx1
          have om : Omg G.C A1 F1 (upd H1 dx (.xd [("line", v)])) w' := rs1.rel.om.new st fun b u q => by rw [upd_ne (ne_of_none q hdx1)]; exact q
          exact post (.ref C) (some dx) σ A1 F1 _ (rs1.step st om) ⟨pl.at_, .inr ⟨rfl, dx, v, rfl, upd_same, rv⟩⟩
      · cases e
    · subst hy; cases e
      exact post cls dd σ A' F' H' rs' xr
end
end Rx

set_option Elab.async false
set_option linter.all false
set_option maxRecDepth 100000
set_option maxHeartbeats 1000000
set_option autoImplicit false
/-! RxS29: exception classes, one with a line; texts cut and looked up. -/
namespace Rx
open PySem L2
/-! ### the classes, one with a line -/
structure XAl2 (K : PySem.W.Frag) (mg : Str → Option Value) (ec : Nat → Option Value) (xs : List (Nat × Str)) : Prop where
  at_ : ∀ k x, xs.lookup k = some x → k ≠ 1 → ∃ C, ec k = some (.ref C) ∧ mg x = some (.ref C) ∧ PySem.W.keepIn K (.ref C) = true ∧ PySem.W.excIn K C [.type "ValueError", .type "Exception", .type "BaseException", .type "object"] "ValueError.__new__" = true ∧ PySem.W.subIn K (.ref C) (.type "BaseException") = some true ∧ PySem.W.typeIn K (.ref C) = some (.type "type")
  glo : ∀ k x, xs.lookup k = some x → ∃ C, ec k = some (.ref C) ∧ mg x = some (.ref C)
  inv : ∀ j cls, ec j = some cls → ∃ C, cls = .ref C ∧ ExcC K C ∧ ∀ k x u, xs.lookup k = some x → mg x = some u → PySem.W.exmOne K cls u = some (subX j k) ∧ PySem.W.kitOne K cls u = some (subX j k)
def xsOk2 (K : PySem.W.Frag) (xs : List (Nat × Str)) : Bool := xs.all fun p => (He.Fa.glo p.2).ok K && ((p.1 == 1 || (He.Fa.exc p.2).ok K) && (excB K (He.ga K p.2) && xs.all fun q => (He.Fa.exm p.2 q.2 (subX p.1 q.1)).ok K && (He.ga K p.2 != He.ga K q.2 || subX p.1 q.1)))
theorem xsOk2_all {K : PySem.W.Frag} {mg : Str → Option Value} {h : Heap} {xs : List (Nat × Str)} (X : K.In h) (G : h.Ns mainGlobals mg) (ok : xsOk2 K xs = true) : XAl2 K mg (ecOf K xs) xs := by
  have one : ∀ k x, xs.lookup k = some x → mg x = some (.ref (He.ga K x)) ∧ (k ≠ 1 → (He.Fa.exc x).ok K = true) ∧ excB K (He.ga K x) = true ∧ ∀ q ∈ xs, (He.Fa.exm x q.2 (subX k q.1)).ok K = true ∧ (He.ga K x = He.ga K q.2 → subX k q.1 = true) := fun k x hk => by
    have m := List.all_eq_true.mp ok (k, x) (lookup_mem hk)
    simp only [Bool.and_eq_true, Bool.or_eq_true, beq_iff_eq] at m
    obtain ⟨m1, m2, m3, m5⟩ := m
    refine ⟨He.glo_ok X G m1, fun z => m2.resolve_left z, m3, fun q hq => ?_⟩
    have m6 := List.all_eq_true.mp m5 q hq
    simp only [Bool.and_eq_true, Bool.or_eq_true] at m6
    refine ⟨m6.1, fun e => ?_⟩
    rcases m6.2 with z | z
    · rw [e] at z; simp at z
    · exact z
  refine ⟨fun k x hk hk1 => ?_, fun k x hk => ?_, fun j cls hj => ?_⟩
  · obtain ⟨e1, e2, e3, e5⟩ := one k x hk
    obtain ⟨x1, x2, x3, x4⟩ := He.exc_ok (e2 hk1)
    exact ⟨He.ga K x, by unfold ecOf; rw [hk]; rfl, e1, x2, x1, x3, x4⟩
  · obtain ⟨e1, e2, e3, e5⟩ := one k x hk
    exact ⟨He.ga K x, by unfold ecOf; rw [hk]; rfl, e1⟩
  · unfold ecOf at hj
    cases hx : xs.lookup j with
    | none => rw [hx] at hj; cases hj
    | some y =>
      rw [hx] at hj; cases hj
      obtain ⟨e1, e2, e3, e5⟩ := one j y hx
      refine ⟨He.ga K y, rfl, excB_ok e3, fun k x u hk hu => ?_⟩
      obtain ⟨f1, _⟩ := one k x hk
      have e := hu.symm.trans f1
      cases e
      obtain ⟨q1, q2⟩ := e5 (k, x) (lookup_mem hk)
      have q3 := He.exm_ok q1
      refine ⟨q3, ?_⟩
      unfold PySem.W.kitOne
      split
      · rename_i z
        have z2 : He.ga K y = He.ga K x := by
          have := eq_of_beq z
          exact Value.ref.inj this
        rw [q2 z2]
      · unfold PySem.W.exmOne at q3
        split at q3
        · exact q3
        · cases q3
section
variable {X : Cx} {G : Cg} {pos : Pos} {xs : List (Nat × Str)} {i : Nat} {n : Str} {a : Addr} {d : Option Addr} {e e2 : Expr}
theorem psd_raiseE2 {k : Nat} {x m : Str} {j : Nat} {p p2 p3 : Pos} (hc : X.calm = true) (tk : Takes X G.W) (xa : XAl2 X.K X.mg G.ec xs) (hx : xs.lookup k = some x) (hk : k ≠ 1) (hg : Gl X x) (hdb : (x == ("__debug__" : Str)) = false) :
    PS X (.Raise (some (.Call (.Name x p) [.Constant (.str m) j p2] [] p3)) none pos) (tS G (sRaise k)) := by
  obtain ⟨C, a1, a2, a3, a4, a5, a6⟩ := xa.at_ k x hx hk
  exact psd_raise hc tk ⟨a1, a2, a3, a4, raises_own a5 a6⟩ hk hg hdb
/-- the value v; slot i holds the exception, its dict is there -/
def Kc (i : Nat) (a : Addr) (d : Option Addr) (σ : St) (H : Hp) : Prop := (∃ σ0 : St, σ = σ0.set i (some (.ref a))) ∧ ∀ dd, d = some dd → ∃ fs, H dd = some (.xd fs)
def tKc (i : Nat) (a : Addr) (d : Option Addr) (v : V) : TE := fun σ H Q => Kc i a d σ H ∧ Q v H
def tKd (i : Nat) (a : Addr) (d : Option Addr) (b : Bool) : TT := fun σ H Q => Kc i a d σ H ∧ Q b H
theorem ptc_isi {oe : Obj} {pn : List (Addr × Obj)} {C : Addr} {u : Value} {x : Str} {b : Bool} {ps p1 p2 : Pos} (ec : ExcC X.K C) (hz : Zc (.ref C) d oe) (hfd : ∃ vs, oe.data = .fields vs) (hk : PySem.W.kitOne X.K (.ref C) u = some b)
    (hi : X.N[i]? = some n) (hv : Vis X.env.scope n) (hd : (n == ("__debug__" : Str)) = false) (hcd : (n == ("__classdict__" : Str)) = false) (hg : X.env.kindOf "isinstance" = some .globalImplicit) (hm : X.mg "isinstance" = none) (hgx : X.env.kindOf x = some .globalImplicit) (hmx : X.mg x = some u) {cv : V} (hcv : RelV cv u) (hun : ∀ z, RelV cv z → z = u) (hdx : (x == ("__debug__" : Str)) = false) :
    PE (X.suite a ((a, oe) :: pn)) (.Call (.Name "isinstance" ps) [.Name n p1, .Name x p2] [] pos) (tKc i a d (.bl b)) := by
  refine peI (pe_callB (call_isD ec hz hfd) hg hm (by decide +kernel) (pa_cons (pk_name (a := a) hi hv hd hcd) (pa_cons (pe_glob hgx hmx hcv hdx) pa_nil rfl) rfl) (by decide) (by decide) rfl rfl) fun σ H Q q => ?_
  exact ⟨q.1.1, cv, u, b, rfl, hun, hk, q.1.2, q.2⟩
theorem ptc_of {b : Bool} (h : PE X e (tKc i a d (.bl b))) (he : ∀ whole, isTrue e X.env whole = (do let v ← whole; standAt e.pos; holding [v] (truthy v))) : PT X e (tKd i a d b) :=
  ptI (pt_truth h he) fun σ H Q q => ⟨q.1, b, rfl, q.2⟩
theorem ptc_not {b : Bool} (h : PT X e (tKd i a d b)) : PT X (.UnaryOp .Not e pos) (tKd i a d (!b)) := ptI (pt_not h) fun σ H Q q => by
  cases b <;> exact ⟨q.1, q.2⟩
theorem ptc_and {b b2 : Bool} (h : PT X e (tKd i a d b)) (h2 : PT X e2 (tKd i a d b2)) : PT X (.BoolOp .And [e, e2] pos) (tKd i a d (b && b2)) := by
  refine ptI (pw_and h (pw_and1 h2)).pt fun σ H Q q => ⟨q.1, ?_⟩
  cases b with
  | true => exact ⟨q.1, q.2⟩
  | false => exact q.2
theorem xrep_dd {ec : Nat → Option Value} {F H : Hp} {cls : Value} {z : Xn} (xr : XRep ec F H cls d z) : ∀ dd, d = some dd → ∃ fs, H dd = some (.xd fs) := fun dd hd => by
  rcases xr.2 with ⟨_, q⟩ | ⟨_, d', v, q, q2, _⟩
  · rw [q] at hd; cases hd
  · rw [q] at hd; cases hd; exact ⟨_, q2⟩
/-- `except x as n: return s if isinstance(n, y) and not isinstance(n, z) else t` -/
theorem hs_two2 {k k2 k3 : Nat} {x y z s t : Str} {hs : List ExceptHandler} {gs : List (Nat × (Xn → Option D))} {j1 j2 : Nat} {p q q1 q2 q3 q4 q5 q6 q7 q8 q9 q10 q11 q12 q13 q14 : Pos} (xa : XAl2 X.K X.mg G.ec xs)
    (hx : xs.lookup k = some x) (hy : xs.lookup k2 = some y) (hz : xs.lookup k3 = some z) (gx : Gl X x) (gy : X.env.kindOf y = some .globalImplicit) (gz : X.env.kindOf z = some .globalImplicit) (gi : X.env.kindOf "isinstance" = some .globalImplicit) (mi : X.mg "isinstance" = none)
    (hi : X.N[i]? = some n) (hl : X.env.kindOf n = some .local) (hv : Vis X.env.scope n) (hd : (n == ("__debug__" : Str)) = false) (hcd : (n == ("__classdict__" : Str)) = false) (dx : (x == ("__debug__" : Str)) = false) (dy : (y == ("__debug__" : Str)) = false) (dz : (z == ("__debug__" : Str)) = false)
    (r : HsOk X G hs gs) :
    HsOk X G (.ExceptHandler (some (.Name x p)) (some n) [.Return (some (.IfExp (.BoolOp .And [.Call (.Name "isinstance" q1) [.Name n q2, .Name y q3] [] q4, .UnaryOp .Not (.Call (.Name "isinstance" q5) [.Name n q6, .Name z q7] [] q8) q9] q10) (.Constant (.str s) j1 q11) (.Constant (.str t) j2 q12) q13)) q14] q :: hs)
      ((k, fun e => some (.str (if subX e.cls k2 && !subX e.cls k3 then s else t))) :: gs) := by
  obtain ⟨C, a1, a2⟩ := xa.glo k x hx
  obtain ⟨Cy, _, b2⟩ := xa.glo k2 y hy
  obtain ⟨Cz, _, c2⟩ := xa.glo k3 z hz
  refine .cons (c := .ref C) ⟨gx, dx, .inl a2⟩ (fun j cls hj => ?_) hi hl (fun a oe cls d pn hzc hfd => ?_) r
  · obtain ⟨D, rfl, _, h⟩ := xa.inv j cls hj
    exact (h k x _ hx a2).1
  · refine ⟨fun pins s0 σ H Dd I q => ?_⟩
    obtain ⟨A, F, w, zz, r, sf, om, xr, e, hσ, na, post⟩ := q
    obtain ⟨D, rfl, ed, h⟩ := xa.inv _ cls xr.1
    cases e
    have pt := ptc_and (pos := q10) (ptc_of (ptc_isi (X := X) (pos := q4) (ps := q1) (p1 := q2) (p2 := q3) (pn := pn) (a := a) (d := d) ed hzc hfd (h k2 y _ hy b2).2 hi hv hd hcd gi mi gy b2 (cv := .ref Cy) rfl (fun _ e => e) dy) (fun _ => rfl)) (ptc_not (pos := q9) (ptc_of (ptc_isi (X := X) (pos := q8) (ps := q5) (p1 := q6) (p2 := q7) (pn := pn) (a := a) (d := d) ed hzc hfd (h k3 z _ hz c2).2 hi hv hd hcd gi mi gz c2 (cv := .ref Cz) rfl (fun _ e => e) dz) (fun _ => rfl)))
    refine (pss_one (ps_ret (pe_ifExp pt pe_str pe_str))).run pins s0 σ H Dd I ⟨⟨hσ, xrep_dd xr⟩, ?_⟩
    cases hb : (subX zz.cls k2 && !subX zz.cls k3) with
    | true =>
      rw [hb] at post
      exact post (.str s) A F H (.refl sf) om (.inl (.str s))
    | false =>
      rw [hb] at post
      exact post (.str t) A F H (.refl sf) om (.inl (.str t))
/-- `except ParseError as n: return ["line", n.line] if isinstance(n, y) and not isinstance(n, z) else ["other"]` -/
theorem hs_line {C0 : Addr} {k2 k3 : Nat} {y z s t : Str} {hs : List ExceptHandler} {gs : List (Nat × (Xn → Option D))} {j1 j2 : Nat} {p q q1 q2 q3 q4 q5 q6 q7 q8 q9 q10 q11 q12 q13 q14 q15 q16 q17 q18 : Pos} (xa : XAl2 X.K X.mg G.ec xs) (pl : Pl X.prog X.w X.K X.mg X.base G.ec C0)
    (hx : xs.lookup 1 = some ("ParseError" : Str)) (hy : xs.lookup k2 = some y) (hz : xs.lookup k3 = some z) (h2 : subX 1 k2 = true) (h3 : subX 1 k3 = false) (gx : Gl X "ParseError") (gy : X.env.kindOf y = some .globalImplicit) (gz : X.env.kindOf z = some .globalImplicit) (gi : X.env.kindOf "isinstance" = some .globalImplicit) (mi : X.mg "isinstance" = none)
    (hi : X.N[i]? = some n) (hl : X.env.kindOf n = some .local) (hv : Vis X.env.scope n) (hd : (n == ("__debug__" : Str)) = false) (hcd : (n == ("__classdict__" : Str)) = false) (dy : (y == ("__debug__" : Str)) = false) (dz : (z == ("__debug__" : Str)) = false)
    (r : HsOk X G hs gs) :
    HsOk X G (.ExceptHandler (some (.Name "ParseError" p)) (some n) [.Return (some (.IfExp (.BoolOp .And [.Call (.Name "isinstance" q1) [.Name n q2, .Name y q3] [] q4, .UnaryOp .Not (.Call (.Name "isinstance" q5) [.Name n q6, .Name z q7] [] q8) q9] q10) (.List [.Constant (.str s) j1 q11, .Attribute (.Name n q12) "line" q13] q14) (.List [.Constant (.str t) j2 q15] q16) q17)) q18] q :: hs)
      ((1, fun e => if e.cls = 1 then some (.list [.str s, e.line]) else none) :: gs) := by
  obtain ⟨C, a1, a2⟩ := xa.glo 1 "ParseError" hx
  obtain ⟨Cy, _, b2⟩ := xa.glo k2 y hy
  obtain ⟨Cz, _, c2⟩ := xa.glo k3 z hz
  refine .cons (c := .ref C) ⟨gx, by decide, .inl a2⟩ (fun j cls hj => ?_) hi hl (fun a oe cls d pn hzc hfd => ?_) r
  · obtain ⟨D, rfl, _, h⟩ := xa.inv j cls hj
    exact (h 1 "ParseError" _ hx a2).1
  · refine ⟨fun pins s0 σ H Dd I q => ?_⟩
    obtain ⟨A, F, w, zz, r, sf, om, xr, e, hσ, na, post⟩ := q
    replace e : (if zz.cls = 1 then some (.list [.str s, zz.line]) else none) = some r := e
    split at e
    case isFalse => cases e
    rename_i hc1
    cases e
    obtain ⟨D, rfl, ed, h⟩ := xa.inv _ cls xr.1
    rcases xr.2 with ⟨hn1, _⟩ | ⟨_, dd, v, hdd, hH, rv⟩
    · exact absurd hc1 hn1
    subst hdd
    have hD : C0 = D := by
      have e1 := xr.1
      rw [hc1, pl.at_] at e1
      cases e1; rfl
    subst hD
    have kb2 := (h k2 y _ hy b2).2
    have kb3 := (h k3 z _ hz c2).2
    rw [hc1, h2] at kb2
    rw [hc1, h3] at kb3
    have pt := ptc_and (pos := q10) (ptc_of (ptc_isi (X := X) (pos := q4) (ps := q1) (p1 := q2) (p2 := q3) (pn := pn) (a := a) (d := some dd) ed hzc hfd kb2 hi hv hd hcd gi mi gy b2 (cv := .ref Cy) rfl (fun _ e => e) dy) (fun _ => rfl)) (ptc_not (pos := q9) (ptc_of (ptc_isi (X := X) (pos := q8) (ps := q5) (p1 := q6) (p2 := q7) (pn := pn) (a := a) (d := some dd) ed hzc hfd kb3 hi hv hd hcd gi mi gz c2 (cv := .ref Cz) rfl (fun _ e => e) dz) (fun _ => rfl)))
    have px : PE (X.suite a ((a, oe) :: pn)) (.Attribute (.Name n q12) "line" q13) (tXf a (.ref C0) (some dd) C0 "line" (tK i a (.ref a))) := pe_xf pl.xf pl.no hzc hfd (pk_name (a := a) hi hv hd hcd) rfl
    refine (pss_one (ps_ret (pe_ifExp pt (pe_lst (pa_cons pe_str (pa_cons px pa_nil rfl) rfl)) (pe_lst (pa_cons pe_str pa_nil rfl))))).run pins s0 σ H Dd I ⟨⟨hσ, xrep_dd xr⟩, ?_⟩
    refine ⟨hσ, rfl, rfl, dd, [("line", v)], v, rfl, hH, rfl, (show 2 ≤ sizeLine by rw [sizeLine_eq]; decide), fun p hp => ?_⟩
    have f : Fin G A F H w (.list [.str s, zz.line]) Dd.rt := post
    exact f.lst sf om hp (.cons (.str s) (.cons rv .nil))
end
/-! ### texts -/
section
variable {X : Cx} {G : Cg} {a b : Expr} {da db : Ex} {pos apos : Pos}
theorem join_cut (c : Nat) : ∀ l : List Nat, joinS [c] (splitS c l) = l ∧ splitS c l ≠ [] ∧ ∀ p ∈ splitS c l, c ∉ p
  | [] => by simp [splitS, joinS]
  | x :: r => by
    obtain ⟨h1, h2, h3⟩ := join_cut c r
    unfold splitS
    by_cases hx : x = c
    · rw [if_pos hx]
      refine ⟨?_, by simp, fun p hp => ?_⟩
      · cases hs : splitS c r with
        | nil => exact absurd hs h2
        | cons p q =>
          rw [hs] at h1
          show [] ++ [c] ++ joinS [c] (p :: q) = _
          rw [h1, hx]; rfl
      · rcases List.mem_cons.mp hp with rfl | hp
        · simp
        · exact h3 p hp
    · rw [if_neg hx]
      cases hs : splitS c r with
      | nil => exact absurd hs h2
      | cons p q =>
        rw [hs] at h1 h3
        refine ⟨?_, by simp, fun z hz => ?_⟩
        · cases q with
          | nil =>
            show x :: p = x :: r
            rw [show p = r from h1]
          | cons p2 q2 =>
            show (x :: p) ++ [c] ++ joinS [c] (p2 :: q2) = x :: r
            have : p ++ [c] ++ joinS [c] (p2 :: q2) = r := h1
            rw [← this]; simp
        · rcases List.mem_cons.mp hz with rfl | hz
          · have := h3 p List.mem_cons_self
            intro hc
            rcases List.mem_cons.mp hc with e | e
            · exact hx e.symm
            · exact this e
          · exact h3 z (List.mem_cons_of_mem _ hz)
theorem m2_of {f : D → D → Option D} {σ : St} {H : Hp} {Q : VK} (h : tD G (dM2 f da db) σ H Q) :
    tO G da σ H fun x H1 => ∃ A F w d, Same F H1 ∧ Omg G.C A F H1 w ∧ Ro G.K A F H1 x d ∧ isStr d = true ∧ tO G db σ H1 fun y H2 => ∃ A' F' w' e v, Step A F H1 A' F' H2 ∧ Omg G.C A' F' H2 w' ∧ Ro G.K A' F' H2 x d ∧ Ro G.K A' F' H2 y e ∧ f d e = some v ∧ Fin G A' F' H2 w' v Q := by
  obtain ⟨A, F, r, w, x, w', rel, e, post⟩ := h
  unfold dM2 at e
  cases h1 : da G.c r w with
  | none => rw [h1] at e; cases e
  | some pr =>
    obtain ⟨x1, w1⟩ := pr
    rw [h1] at e
    cases x1 with
    | exc y => cases e; exact ⟨A, F, r, w, .exc y, _, rel, h1, post⟩
    | val d =>
      simp only at e
      split at e
      · rename_i hok
        refine ⟨A, F, r, w, .val d, w1, rel, h1, fun v A1 F1 H1 s1 o1 r1 => ⟨A1, F1, w1, d, s1.fh, o1, r1, hok, ?_⟩⟩
        cases h2 : db G.c r w1 with
        | none => rw [h2] at e; cases e
        | some pr =>
          obtain ⟨x2, w2⟩ := pr
          rw [h2] at e
          cases x2 with
          | exc y => cases e; exact ⟨A1, F1, r, w1, .exc y, _, rel.step s1 o1, h2, fun cls dd A2 F2 H2 s2 o2 q => post cls dd A2 F2 H2 (s1.trans s2) o2 q⟩
          | val d2 =>
            simp only at e
            rw [Option.map_eq_some_iff] at e
            obtain ⟨v3, e1, e2⟩ := e
            cases e2
            exact ⟨A1, F1, r, w1, .val d2, _, rel.step s1 o1, h2, fun y A2 F2 H2 s2 o2 r2 => ⟨A2, F2, _, d2, v3, s2, o2, r1.step s2, r2, e1, fun u A3 F3 H3 s3 o3 r3 => post u A3 F3 H3 ((s1.trans s2).trans s3) o3 r3⟩⟩
      · cases e
theorem split_cut {y : Str} {c : Nat} (hy : sign? y = some c) (hc : c < 256) (x : Str) : Txt.split x y = (splitS c x.cps.toList).map fun l => ⟨l.toArray⟩ := by
  have ey : TL.tl y = [c] := by
    unfold sign? at hy
    show y.cps.toList = [c]
    split at hy
    · rename_i z; cases hy; exact z
    · cases hy
  obtain ⟨h1, h2, h3⟩ := join_cut c x.cps.toList
  have jl : ∀ ls : List (List Nat), TL.joinL [c] ls = joinS [c] ls := fun ls => by
    induction ls with
    | nil => rfl
    | cons p r ih =>
      cases r with
      | nil => rfl
      | cons q r =>
        show p ++ ([c] ++ TL.joinL [c] (q :: r)) = p ++ [c] ++ joinS [c] (q :: r)
        rw [ih, List.append_assoc]
  have key := TL.split_join (y := y) (s := c) (S := []) ey (by
    have : y.cps = #[c] := by rw [← Array.toArray_toList (xs := y.cps), show y.cps.toList = [c] from ey]
    rw [this]; simp [hc]) (parts := (splitS c x.cps.toList).map fun l => (⟨l.toArray⟩ : Str)) (by simpa using h2) (fun p hp => by
      obtain ⟨l, hl, rfl⟩ := List.mem_map.mp hp
      show c ∉ l.toArray.toList
      rw [List.toList_toArray]
      exact h3 l hl)
  have ex : Txt.join y ((splitS c x.cps.toList).map fun l => (⟨l.toArray⟩ : Str)) = x := by
    refine TL.ext_tl ?_
    rw [TL.join_eq, TL.tl_join, ey, jl, List.map_map]
    have : (TL.tl ∘ fun l : List Nat => (⟨l.toArray⟩ : Str)) = id := by
      funext l
      show l.toArray.toList = l
      exact List.toList_toArray
    rw [this, List.map_id]
    exact h1
  rw [ex] at key
  exact key
theorem rp_txts {F : Hp} : ∀ ys : List Str, RpAll F (ys.map V.str) (ys.map PyData.str)
  | [] => .nil
  | y :: r => .cons (.str y) (rp_txts r)
theorem pd_split (hs : starEach [b] X.env = [(false, eval b X.env)]) (hbase : attributeBase a "split" X.env (eval a X.env) = eval a X.env) (hline : (apos.endLine == pos.line) = true) (ha : PE X a (tO G da)) (hb : PE X b (tO G db)) :
    PE X (.Call (.Attribute a "split" apos) [b] [] pos) (tD G (dSpl da db)) := by
  refine peI (pe_split ha hb hs hbase hline) fun σ H Q q => tO_imp (m2_of q) fun x H1 ⟨A, F, w, d, s, o, ro, ok, k⟩ => ?_
  cases d with
  | str y =>
    refine ⟨⟨y, ro.str⟩, tO_imp k fun z H2 ⟨A2, F2, w2, e, v, s2, o2, ro2, ry, ep, fn⟩ => ?_⟩
    cases e with
    | str u =>
      replace ep : ((sign? u).bind fun c => if c < 256 ∧ y.length ≤ zL then some (PyData.list ((splitS c y.cps.toList).map fun l => .str ⟨l.toArray⟩)) else none) = some v := ep
      rw [Option.bind_eq_some_iff] at ep
      obtain ⟨c, e1, e2⟩ := ep
      split at e2
      · rename_i hz; cases e2
        refine ⟨y, u, ro2.str, by rw [ry.str], ?_, ?_, fun p hp => ?_⟩
        · have : u.length = 1 := by
            unfold sign? at e1
            split at e1
            · rename_i z
              have := congrArg List.length z
              simpa [Str.length] using this
            · cases e1
          rw [this]; rfl
        · have := hz.2
          unfold zL at this
          rw [sizeLine_eq]; omega
        · rw [split_cut e1 hz.1]
          refine fn.lst s2.fh o2 hp ?_
          have := rp_txts (F := F2) ((splitS c y.cps.toList).map fun l => (⟨l.toArray⟩ : Str))
          rw [List.map_map (g := PyData.str)] at this
          exact this
      · cases e2
    | _ => cases ep
  | _ => cases ok
theorem pd_six (hs : starEach [b] X.env = [(false, eval b X.env)]) (hbase : attributeBase a "index" X.env (eval a X.env) = eval a X.env) (hline : (apos.endLine == pos.line) = true) (ha : PE X a (tO G da)) (hb : PE X b (tO G db)) :
    PE X (.Call (.Attribute a "index" apos) [b] [] pos) (tD G (dSix da db)) := by
  refine peI (pe_m1 PySem.F.slot_str_index PySem.F.type_str_index mt_sindex ha hb hs hbase hline) fun σ H Q q => tO_imp (m2_of q) fun x H1 ⟨A, F, w, d, s, o, ro, ok, k⟩ => ?_
  cases d with
  | str y =>
    refine ⟨⟨y, ro.str⟩, tO_imp k fun z H2 ⟨A2, F2, w2, e, v, s2, o2, ro2, ry, ep, fn⟩ => ?_⟩
    cases e with
    | str u =>
      replace ep : (if y = "0123456789" then (digIx u).map fun i => PyData.int (i : Nat) else none) = some v := ep
      split at ep
      · rename_i hy
        rw [Option.map_eq_some_iff] at ep
        obtain ⟨i, e1, e2⟩ := ep
        subst e2 hy
        have occ : Builtin.Str.occurrences "0123456789" u 0 ("0123456789" : Str).length 1 = [i] := by
          unfold digIx at e1
          repeat' (split at e1; · rename_i h; cases e1; subst h; decide +kernel)
          cases e1
        exact ⟨_, u, i, [], ro2.str, by rw [ry.str], occ, fn.same s2.fh o2 (.inl (.int _))⟩
      · cases ep
    | _ => cases ep
  | _ => cases ok
end
end Rx

set_option Elab.async false
set_option linter.all false
set_option maxRecDepth 100000
set_option maxHeartbeats 1000000
set_option autoImplicit false
/-! RxS30: what the head must say of the class with a line. -/
namespace Rx
open PySem L2
def oexB (K : PySem.W.Frag) (C : Addr) : Bool := (match K.lookup C with
  | some ⟨.type "type", _, .cls cd, sl⟩ => (match cd.mro, sl.toList with
    | .ref C' :: bm, [_, _, _, _, some (.builtin n), _] => C' == C && n == "ValueError.__new__" && !cd.hasDel && cd.hasDict && PySem.HandSPX.refsVE bm
    | _, _ => false)
  | _ => false) && (He.eqO (PySem.W.findIn K (.ref C) "__setattr__") (some (some (.builtin "object.__setattr__"))) && (decide (PySem.W.subIn K (.ref C) (.type "BaseException") = some true) && (decide (PySem.W.typeIn K (.ref C) = some (.type "type")) && PySem.W.keepIn K (.ref C))))
theorem oexB_ok {K : PySem.W.Frag} {C : Addr} (h : oexB K C = true) : OexC K C := by
  unfold oexB at h
  simp only [Bool.and_eq_true, decide_eq_true_eq] at h
  obtain ⟨q, h2, h3, h4, h5⟩ := h
  refine ⟨?_, He.eqO_ok h2, h3, h4, h5⟩
  split at q
  · rename_i dd cd sl ho
    split at q
    · rename_i C' bm k0 k1 k2 k3 n k5 hm hs
      simp only [Bool.and_eq_true, beq_iff_eq, Bool.not_eq_true'] at q
      obtain ⟨⟨⟨⟨rfl, rfl⟩, hdel⟩, hdd⟩, hbm⟩ := q
      obtain ⟨nm, bs, mro, ns, qn, hd, sn, sub, ab, col, del⟩ := cd
      dsimp only at hm hdel hdd
      subst hm hdel hdd
      have hsl : sl = #[k0, k1, k2, k3, some (.builtin "ValueError.__new__"), k5] := by
        obtain ⟨l⟩ := sl
        simp only at hs
        rw [hs]
      subst hsl
      exact ⟨nm, qn, ns, bs, bm, sn, sub, ab, col, dd, k0, k1, k2, k3, k5, ho, hbm⟩
    · cases q
  · cases q
def clsV (K : PySem.W.Frag) (B : Addr) : Bool := match PySem.W.findCls K (.ref B) (.type "type") "__init__" with
  | some (.val (.builtin n)) => n == "ValueError.__init__"
  | _ => false
def plB (K : PySem.W.Frag) : Bool := oexB K (He.ga K "ParseError") && ((He.Fa.glo "ParseError").ok K && ((He.Fa.noat "ParseError" "line").ok K && (xfB K (He.ga K "ParseError") && ((He.Fa.meth "ParseError" "__init__").ok K && ((He.Fa.glo "ExchangeError").ok K &&
  (He.eqO (PySem.W.specialIn K (.ref (He.ga K "ExchangeError")) "__getattribute__") (some (some (.builtin "type.__getattribute__"))) && (PySem.W.readsIn K (He.ga K "ExchangeError") (.type "type") && clsV K (He.ga K "ExchangeError"))))))))
structure Pb (K : PySem.W.Frag) (mg : Str → Option Value) (C B : Addr) : Prop where
  T : OexC K C
  g : mg "ParseError" = some (.ref C)
  no : PySem.W.findIn K (.ref C) "line" = some none
  xf : XfC K C
  me : Meth K C "__init__" (He.ma K C "__init__")
  gB : mg "ExchangeError" = some (.ref B)
  hga : PySem.W.specialIn K (.ref B) "__getattribute__" = some (some (.builtin "type.__getattribute__"))
  hrd : PySem.W.readsIn K B (.type "type") = true
  vV : PySem.W.findCls K (.ref B) (.type "type") "__init__" = some (.val (.builtin "ValueError.__init__"))
theorem plB_ok {K : PySem.W.Frag} {h : Heap} {mg : Str → Option Value} (X : K.In h) (G : h.Ns mainGlobals mg) (b : plB K = true) : Pb K mg (He.ga K "ParseError") (He.ga K "ExchangeError") := by
  unfold plB at b
  simp only [Bool.and_eq_true, decide_eq_true_eq] at b
  obtain ⟨b1, b2, b3, b4, b5, b6, b7, b8, b9⟩ := b
  refine ⟨oexB_ok b1, He.glo_ok X G b2, He.noat_ok b3, xfB_ok b4, He.meth_ok b5, He.glo_ok X G b6, He.eqO_ok b7, b8, ?_⟩
  unfold clsV at b9
  split at b9
  · rename_i n e
    rw [e, eq_of_beq b9]
  · cases b9
/-- the body of __init__ -/
def tIn (C : Addr) : TS := fun D σ H => ∃ a y, σ[0]? = some (some (.ref a)) ∧ σ[1]? = some (some y) ∧ H a = some (exo a C none) ∧ ∀ dx, H dx = none → dx ≠ a → D.nx σ (upd (upd H dx (exd dx [("line", y)])) a (exo a C (some dx)))
theorem init_run {X : Cx} {C B : Addr} {m : Str} {j : Nat} {p1 p2 p3 p4 p5 p6 p7 p8 p9 p10 : Pos} {pl : Sem Bool} (b : Pb X.K X.mg C B) (hg : Gl X "ExchangeError") (h0 : X.N[0]? = some ("self" : Str)) (h1 : X.N[1]? = some ("line" : Str)) (v0 : Vis X.env.scope "self") (v1 : Vis X.env.scope "line")
    (hc : eval (.Call (.Attribute (.Name "ExchangeError" p1) "__init__" p2) [.Name "self" p3, .Constant (.str m) j p4] [] p5) X.env = (do
      let ov ← eval (.Name "ExchangeError" p1) X.env
      standAt p2.atName
      let (f, first) ← holding [ov] (getMethod ov "__init__" pl)
      callWith p5 f first (backTo p5 (starEach [.Name "self" p3, .Constant (.str m) j p4] X.env)) (backToKw p5 (keywordEach [] X.env))))
    (he : starEach [.Name "self" p3, .Constant (.str m) j p4] X.env = (false, eval (.Name "self" p3) X.env) :: starEach [.Constant (.str m) j p4] X.env) (he2 : starEach [.Constant (.str m) j p4] X.env = (false, eval (.Constant (.str m) j p4) X.env) :: starEach [] X.env) (hpl : (backTo p5 (starEach [.Constant (.str m) j p4] X.env)).any (·.1) = false)
    (hs : swapsWith (.Call (.Attribute (.Name "ExchangeError" p1) "__init__" p2) [.Name "self" p3, .Constant (.str m) j p4] [] p5) none p6.line X.env = pure false)
    (hs2 : swapsWith (.Name "line" p9) (some (.Attribute (.Name "self" p7) "line" p8)) p10.line X.env = pure false) :
    PSs X [.Expr (.Call (.Attribute (.Name "ExchangeError" p1) "__init__" p2) [.Name "self" p3, .Constant (.str m) j p4] [] p5) p6, .Assign [.Attribute (.Name "self" p7) "line" p8] (.Name "line" p9) p10] (tIn C) := by
  refine pssI (pss_cons (ps_expr (pe_xinit hg b.gB b.hga b.hrd b.vV (pa_cons (pe_var h0 v0) (pa_cons pe_str pa_nil he2) he) (by decide) hc he hpl) hs) (pss_one (ps_ost (pe_var h0 v0) (pe_var h1 v1) hs2))) fun Dd σ H ⟨a, y, e0, e1, ea, q⟩ => ?_
  exact ⟨.ref a, e0, a, C, _, rfl, (show 1 ≤ 1000 by decide), b.T, ea, y, e1, .ref a, e0, a, C, rfl, b.T, b.no, .inl ⟨ea, q⟩⟩
theorem init_ok {P : Program} {w : World} {K : PySem.W.Frag} {mg : Str → Option Value} {base : Heap} {x qual : Str} {params : Arguments} {body : List Stmt} {scope : Scope} {f : Addr} {fd : FuncData} {C : Addr} (F : FunD K x qual params body scope [] [] f fd) (S : FnScope ["self", "line"] ["self", "line"] scope)
    (hb : ∀ (cdv : Value) (A : Around) (outer : List PySem.Env) (s : Shared) (H : Hp) (E : XK), PSs (cxOf (L2.CX P w) P w K mg base ["self", "line"] qual scope f cdv A outer s H E) body (tIn C)) : FnOk P w K mg base (L2.CX P w) 1 f fd ["self", "line"] (spLine C) := by
  refine FunD.ok (k := 0) F S (fun vs H Q E h => ?_) (fun cdv A outer s H vs Q E hr h => ?_)
  · obtain ⟨a, y, rfl, _⟩ := h; rfl
  · obtain ⟨a, y, rfl, ea, q⟩ := h
    exact ⟨_, hb cdv A outer s H E, a, y, rfl, rfl, ea, q⟩
theorem pl_of {P : Program} {w : World} {K : PySem.W.Frag} {mg : Str → Option Value} {base : Heap} {ec : Nat → Option Value} {C B : Addr} {fd : FuncData} (b : Pb K mg C B) (hec : ec 1 = some (.ref C)) (hB : Binds K fd ["self", "line"] []) (h : FnOk P w K mg base (L2.CX P w) 1 (He.ma K C "__init__") fd ["self", "line"] (spLine C)) : Pl P w K mg base ec C :=
  ⟨b.T, hec, b.g, b.no, b.xf, _, fd, _, b.me.at_, eq_of_beq b.me.fn, hB, h⟩
/-! ### the head's word, with the statics -/
def frP (g : Addr → Option Obj) (n : Nat) : PySem.W.Frag := He.frG g (He.asD g n ++ [cStatics])
def hookP (n : Nat) (fa : List He.Fa) (fn : List He.DefD) (ex : PySem.W.Frag → Bool) : PySem.W.Hook where
  α := He.AlD × Bool
  obs := fun s => (He.obsD fa fn (frP s.heap.get? n), ex (frP s.heap.get? n))
  val := fun _ => (He.valD fn, true)
  says := fun _ h => ∃ K : PySem.W.Frag, K.In h ∧ He.SaysD fa fn K ∧ ex K = true
  of := fun _ s e => ⟨frP s.heap.get? n, He.frG_in, congrArg Prod.fst e, congrArg Prod.snd e⟩
  keeps := fun _ _ _ ⟨K, hK, c⟩ k => ⟨K, PySem.W.Frag.In.keeps hK k, c⟩
def obP (n : Nat) (fa : List He.Fa) (fn : List He.DefD) (ex : PySem.W.Frag → Bool) (s : PySem.W.SharedT) : He.AlD × Bool := (He.obsD fa fn (frP (HandSHeadRun.getT s) n), ex (frP (HandSHeadRun.getT s) n))
theorem obP_eq {n : Nat} {fa : List He.Fa} {fn : List He.DefD} {ex : PySem.W.Frag → Bool} (s : PySem.W.SharedT) : obP n fa fn ex s = (hookP n fa fn ex).obs s.abs := by
  have e : HandSHeadRun.getT s = s.abs.heap.get? := funext (HandSHeadRun.getT_eq s)
  unfold obP
  rw [e]
  rfl
end Rx

set_option Elab.async false
set_option linter.all false
set_option maxRecDepth 100000
set_option maxHeartbeats 1000000
set_option autoImplicit false
/-! RxS31: zip of two tuples; pairs compared. -/
namespace L2
open PySem PySem.Spec PyProof.Rows
def rGeT (K : PySem.W.Frag) : R2 := fun x y H Q => ∃ (a b : Addr) (ns ms : List Int), x = .ref a ∧ y = .ref b ∧ SqT K H a (ns.map V.int) ∧ SqT K H b (ms.map V.int) ∧
  Q (.bl (Ob.lexAt (fun j => decide (ns.getD j 0 = ms.getD j 0)) (fun j => decide (ms.getD j 0 ≤ ns.getD j 0)) (decide (ns.length ≥ ms.length)) 0 (min ns.length ms.length))) H
theorem op_geT {X : Cx} (hu : X.A.units < cLine) : OpR X (compareOp .GtE) (rGeT X.K) := by
  intro pins s σ H x y v u Q I rx ry h
  obtain ⟨a, b, ns, ms, rfl, rfl, ha, hb, q⟩ := h
  cases rx
  cases ry
  obtain ⟨its, r1, p1, _⟩ := I.tuple ha
  obtain ⟨its2, r2, p2, _⟩ := I.tuple hb
  have i1 : IntsAre its ns := Vals.ints r1
  have i2 : IntsAre its2 ms := Vals.ints r2
  have e1 : its.toArray.size = ns.length := by rw [List.size_toArray]; exact i1.length
  have e2 : its2.toArray.size = ms.length := by rw [List.size_toArray]; exact i2.length
  have at1 : ∀ j (h1 : j < its.toArray.size), ∃ t, its.toArray[j] = .int (ns.getD j 0) t := fun j h1 => PyProof.Rows.IntsAre.int_at i1 _ _ (by simp at h1; simp [h1])
  have at2 : ∀ j (h1 : j < its2.toArray.size), ∃ t, its2.toArray[j] = .int (ms.getD j 0) t := fun j h1 => PyProof.Rows.IntsAre.int_at i2 _ _ (by simp at h1; simp [h1])
  have R := Ob.RcOp.tuples_ge (A := X.A) (s := s) (e := fun j => decide (ns.getD j 0 = ms.getD j 0)) (r := fun j => decide (ms.getD j 0 ≤ ns.getD j 0)) p1 p2 hu (fun j h1 h2 => by
    obtain ⟨t, et⟩ := at1 j h1
    obtain ⟨t', et'⟩ := at2 j h2
    rw [et, et']
    have z : (ns.getD j 0 == ms.getD j 0) = decide (ns.getD j 0 = ms.getD j 0) := by
      by_cases q : ns.getD j 0 = ms.getD j 0
      · rw [decide_eq_true q]; exact beq_iff_eq.mpr q
      · rw [decide_eq_false q]; exact beq_eq_false_iff_ne.mpr q
    rw [← z]
    exact SeqAt.EqAt.int_int _ _ _ _) (fun j h1 h2 _ => by
    obtain ⟨t, et⟩ := at1 j h1
    obtain ⟨t', et'⟩ := at2 j h2
    rw [et, et']
    exact Ob.RcOp.ge_int _ _ _ _)
  rw [e1, e2] at R
  have z : wpAny (model X.prog X.w) X.A (compareOp .GtE (.ref a) (.ref b)) (EP X pins σ Q) X.xe s := R X.prog X.w X.xe (EP X pins σ Q) ⟨.bl _, H, I, rfl, q⟩
  exact z
end L2
namespace Rx
open PySem L2
section
variable {X : Cx} {G : Cg} {a b : Expr} {da db : Ex} {pos p tpos : Pos} {elts : List Expr} {kk : Nat}
theorem geT_args {σ : St} {H : Hp} {Q : VK} (h : tD G (dGeT da db) σ H Q) : tOs G (dCons da (dCons db dNil)) σ H fun vs H1 => ∃ A F w ds d, Same F H1 ∧ Omg G.C A F H1 w ∧ RoAll G.K A F H1 vs ds ∧ p2 geT ds = some d ∧ Fin G A F H1 w d Q := by
  obtain ⟨A, F, r, w, x, w', rel, e, post⟩ := h
  unfold dGeT at e
  cases hs : dCons da (dCons db dNil) G.c r w with
  | none => rw [hs] at e; cases e
  | some q =>
    obtain ⟨x1, w1⟩ := q
    rw [hs] at e
    cases x1 with
    | exc y => cases e; exact ⟨A, F, r, w, .exc y, _, rel, hs, post⟩
    | vals ds =>
      simp only at e
      cases hp : p2 geT ds with
      | none => rw [hp] at e; cases e
      | some d =>
        rw [hp] at e; cases e
        exact ⟨A, F, r, w, .vals ds, _, rel, hs, fun vs A1 F1 H1 s1 o1 r1 => ⟨A1, F1, _, ds, d, s1.fh, o1, r1, hp, fun v A2 F2 H2 s2 o2 r2 => post v A2 F2 H2 (s1.trans s2) o2 r2⟩⟩
theorem geT_some {d e v : D} (h : geT d e = some v) : ∃ i j k l : Int, d = .tuple [.int i, .int j] ∧ e = .tuple [.int k, .int l] ∧ v = .bool (if i = k then decide (l ≤ j) else decide (k ≤ i)) := by
  unfold geT at h
  split at h
  · cases h; exact ⟨_, _, _, _, rfl, rfl, rfl⟩
  · cases h
theorem rp_pair {F : Hp} {vs : List V} {i j : Int} (h : RpAll F vs [.int i, .int j]) : vs = [i, j].map V.int := by
  cases h with
  | cons a t =>
    cases t with
    | cons b t =>
      cases t
      cases a; cases b; rfl
theorem geT_bool : ∀ c r w d w', dGeT da db c r w = some (.val d, w') → ∃ b, d = .bool b := by
  intro c r w d w' h
  unfold dGeT at h
  split at h
  · cases h
  · cases h
  · rename_i ds w1 hds
    rw [Option.map_eq_some_iff] at h
    obtain ⟨v, e1, e2⟩ := h
    cases e2
    clear hds
    match ds, e1 with
    | [x, y], e1 =>
      obtain ⟨i, j, k, l, _, _, e⟩ := geT_some (show geT x y = some d from e1)
      exact ⟨_, e⟩
    | [], e1 => cases e1
    | [_], e1 => cases e1
    | _ :: _ :: _ :: _, e1 => cases e1
theorem geT_k (hK : G.K = X.K) {Q : VK} {x y : V} {H : Hp} (k : ∃ A F w ds d, Same F H ∧ Omg G.C A F H w ∧ RoAll G.K A F H [x, y] ds ∧ p2 geT ds = some d ∧ Fin G A F H w d Q) : rGeT X.K x y H Q := by
  obtain ⟨A, F, w, ds, d, s, o, ro, e, f⟩ := k
  obtain ⟨d1, d2, rfl, r1, r2⟩ := RoAll2 ro
  obtain ⟨i, j, k, l, rfl, rfl, rfl⟩ := geT_some (show geT d1 d2 = some d from e)
  obtain ⟨a1, v1, rfl, f1, q1⟩ := r1.tup
  obtain ⟨a2, v2, rfl, f2, q2⟩ := r2.tup
  have := rp_pair q1
  subst this
  have := rp_pair q2
  subst this
  refine ⟨a1, a2, [i, j], [k, l], rfl, rfl, .inl (.inl (s _ _ f1)), .inl (.inl (s _ _ f2)), ?_⟩
  have ev : Ob.lexAt (fun m => decide ([i, j].getD m 0 = [k, l].getD m 0)) (fun m => decide ([k, l].getD m 0 ≤ [i, j].getD m 0)) (decide ([i, j].length ≥ [k, l].length)) 0 (min [i, j].length [k, l].length) = if i = k then decide (l ≤ j) else decide (k ≤ i) := by
    show (if decide (i = k) = true then (if decide (j = l) = true then true else decide (l ≤ j)) else decide (k ≤ i)) = _
    by_cases h1 : i = k
    · rw [if_pos (decide_eq_true h1), if_pos h1]
      by_cases h2 : j = l
      · rw [if_pos (decide_eq_true h2)]; exact (decide_eq_true (by omega)).symm
      · rw [if_neg (by simpa using h2)]
    · rw [if_neg (by simpa using h1), if_neg h1]
  rw [ev]
  exact f.same s o (.inl (.bl _))
theorem ptd_geT (hK : G.K = X.K) (hu : X.A.units < cLine) (ha : PE X a (tO G da)) (hb : PE X b (tO G db)) (hm : behindInMarks .GtE b = false) : PT X (.Compare a [.GtE] [b] pos) (tT G (dGeT da db)) :=
  pt_bool geT_bool (fun σ H Q h => tO_imp (args2 (geT_args h)) fun x H1 q => tO_imp q fun y H2 k => geT_k hK k) (pt_cmpR (op_geT hu) ha hb hm)
/-! ### zip -/
theorem itF_zipT {K : PySem.W.Frag} {F : Hp} {a b : Addr} {vs us : List V} {ds es : List D} (ha : F a = some (.tup vs)) (hb : F b = some (.tup us)) (r : RpAll F vs ds) (q : RpAll F us es) : ItF (RZ.ItzT K a b) F (List.zipWith (fun x y => .tuple [x, y]) ds es) := by
  refine ⟨fun F2 H2 i s1 s2 hi => ?_, fun A2 F2 H2 i x H3 s1 s2 hi hy => ?_, fun F2 H2 i s1 s2 hi => ?_⟩
  · rw [List.length_zipWith] at hi
    have hl : i < vs.length := by rw [r.length]; omega
    have hl2 : i < us.length := by rw [q.length]; omega
    exact ⟨vs, us, vs[i], us[i], .inl (.inl (s2 _ _ (s1 _ _ ha))), .inl (.inl (s2 _ _ (s1 _ _ hb))), List.getElem?_eq_getElem hl, List.getElem?_eq_getElem hl2⟩
  · obtain ⟨T, y, z, rfl, hT, rfl, h, h'⟩ := hy
    obtain ⟨d, e1, e2⟩ := r.getV (h vs (.inl (.inl (s2 _ _ (s1 _ _ ha)))))
    obtain ⟨d', e1', e2'⟩ := q.getV (h' us (.inl (.inl (s2 _ _ (s1 _ _ hb)))))
    refine ⟨upd F2 T (.tup [y, z]), .tuple [d, d'], .new s2 hT, keep_new hT, ?_, .tup upd_same ?_⟩
    · rw [List.getElem?_zipWith, e1, e1']
    · exact .cons ((e2.mono s1).mono (same_new (s2.free hT))) (.cons ((e2'.mono s1).mono (same_new (s2.free hT))) .nil)
  · rw [List.length_zipWith] at hi
    refine ⟨vs, us, .inl (.inl (s2 _ _ (s1 _ _ ha))), .inl (.inl (s2 _ _ (s1 _ _ hb))), ?_⟩
    rw [r.length, q.length]
    omega
theorem pid_zip {frz : Bool} {des : Exs} (hK : G.K = X.K) (hg : Gl X "zip") (hm : X.mg "zip" = none) (ha : PA X [a, b] (tDs G des)) (hs : starEach [a, b] X.env = (false, eval a X.env) :: starEach [b] X.env) (hpl : (backTo pos (starEach [b] X.env)).any (·.1) = false) :
    PI X (.Tuple elts kk tpos) (.Call (.Name "zip" p) [a, b] [] pos) (tI G frz (iZip des)) := by
  refine piI (RZ.pi_zipA hg hm ha hs hpl) fun σ H R h => ?_
  obtain ⟨A, F, r, w, x, w', rel, e, post⟩ := h
  unfold iZip at e
  split at e
  · rename_i xs ys w1 hes
    cases e
    refine ⟨A, F, r, w, .vals [.tuple xs, .tuple ys], _, rel, hes, fun vs A1 F1 H1 s1 o1 r1 => ?_⟩
    cases r1 with
    | cons ra rr =>
      cases rr with
      | cons rb rr =>
        cases rr
        have r2 := ra.plain rfl
        have r3 := rb.plain rfl
        cases r2 with
        | tup h1 q1 =>
          cases r3 with
          | tup h2 q2 =>
            refine ⟨_, _, _, _, rfl, .inr ⟨.inl (.inl (s1.fh _ _ h1)), .inl (.inl (s1.fh _ _ h2)), post _ A1 F1 H1 s1 o1 (by
              have hit := itF_zipT (K := X.K) h1 h2 q1 q2
              split
              · exact hit
              · exact hit.s)⟩⟩
  · rename_i y w1 hes
    cases e
    exact ⟨A, F, r, w, .exc y, _, rel, hes, post⟩
  · cases e
end
end Rx

set_option Elab.async false
set_option linter.all false
set_option maxRecDepth 100000
set_option maxHeartbeats 1000000
set_option autoImplicit false
/-! RxS32: a suite that looks the exception over. -/
namespace Rx
open PySem L2
def tKa (i : Nat) (a : Addr) (d : Option Addr) (vs : List V) : TA := fun σ H Q => Kc i a d σ H ∧ Q vs H
def txA (i : Nat) (a : Addr) (d : Option Addr) (j : Nat) (vs : List V) : TS := fun Dd σ H => Kc i a d σ H ∧ ∀ p, H p = none → Dd.nx (σ.set j (some (.ref p))) (upd H p (.lst vs))
def txB (i : Nat) (a : Addr) (d : Option Addr) (j : Nat) (vs : List V) : TS := fun Dd σ H => Kc i a d σ H ∧ ∃ p0 us, σ[j]? = some (some (.ref p0)) ∧ H p0 = some (.lst us) ∧ us.length ≤ 900 ∧ ∀ p1 p2, H p1 = none → upd H p1 (.lst vs) p2 = none → Dd.nx (σ.set j (some (.ref p2))) (upd (upd H p1 (.lst vs)) p2 (.lst (us ++ vs)))
def txC (i : Nat) (a : Addr) (d : Option Addr) (j : Nat) (v : V) : TS := fun Dd σ H => Kc i a d σ H ∧ ∃ p0 us, σ[j]? = some (some (.ref p0)) ∧ H p0 = some (.lst us) ∧ us.length ≤ 900 ∧ Dd.nx σ (upd H p0 (.lst (us ++ [v])))
def txD (i : Nat) (a : Addr) (d : Option Addr) (j : Nat) (v : V) : TS := fun Dd σ H => Kc i a d σ H ∧ Dd.nx (σ.set j (some v)) H
def txE (i : Nat) (a : Addr) (d : Option Addr) (C0 C : Addr) (j jm : Nat) : TS := fun Dd σ H => Kc i a d σ H ∧ ∃ m : Int, σ[jm]? = some (some (.int m)) ∧ (m = 8 → C = C0 ∧ ∃ dd v, d = some dd ∧ H dd = some (.xd [("line", v)]) ∧ Dd.nx (σ.set j (some v)) H) ∧ (m ≠ 8 → Dd.nx (σ.set j (some (.str "none"))) H)
section
variable {X : Cx} {G : Cg} {i j jm : Nat} {a : Addr} {d : Option Addr} {e : Expr} {es : List Expr} {v : V} {vs : List V} {pos p2 p3 p4 p5 : Pos} {x : Str}
theorem pac_nil : PA X [] (tKa i a d []) := paI pa_nil fun _ _ _ q => q.2
theorem pac_cons (h : PE X e (tKc i a d v)) (hs : PA X es (tKa i a d vs)) (hst : starEach (e :: es) X.env = (false, eval e X.env) :: starEach es X.env) : PA X (e :: es) (tKa i a d (v :: vs)) :=
  paI (pa_cons h hs hst) fun σ H Q ⟨k, q⟩ => ⟨k, k, q⟩
theorem ppx_isi {oe : Obj} {pn : List (Addr × Obj)} {C : Addr} {xs : List (Nat × Str)} {z : Xn} {k2 : Nat} {n y : Str} {q1 q2 q3 q4 : Pos} {ec : Nat → Option Value} (xa : XAl2 X.K X.mg ec xs) (hx : ec z.cls = some (.ref C)) (hz : Zc (.ref C) d oe) (hfd : ∃ vs, oe.data = .fields vs)
    (hy : xs.lookup k2 = some y) (gy : X.env.kindOf y = some .globalImplicit) (gi : X.env.kindOf "isinstance" = some .globalImplicit) (mi : X.mg "isinstance" = none)
    (hi : X.N[i]? = some n) (hv : Vis X.env.scope n) (hd : (n == ("__debug__" : Str)) = false) (hcd : (n == ("__classdict__" : Str)) = false) (dy : (y == ("__debug__" : Str)) = false) :
    PE (X.suite a ((a, oe) :: pn)) (.Call (.Name "isinstance" q1) [.Name n q2, .Name y q3] [] q4) (tKc i a d (.bl (subX z.cls k2))) := by
  obtain ⟨Cy, _, b2⟩ := xa.glo k2 y hy
  obtain ⟨D, e, ed, h⟩ := xa.inv _ _ hx
  cases e
  exact ptc_isi ed hz hfd (h k2 y _ hy b2).2 hi hv hd hcd gi mi gy b2 (cv := .ref Cy) rfl (fun _ e => e) dy
theorem ppx_isV {oe : Obj} {pn : List (Addr × Obj)} {C : Addr} {xs : List (Nat × Str)} {z : Xn} {n : Str} {q1 q2 q3 q4 : Pos} {ec : Nat → Option Value} (xa : XAl2 X.K X.mg ec xs) (ve : VeAll X.K ec) (hx : ec z.cls = some (.ref C)) (hz : Zc (.ref C) d oe) (hfd : ∃ vs, oe.data = .fields vs)
    (gi : X.env.kindOf "isinstance" = some .globalImplicit) (mi : X.mg "isinstance" = none) (gv : X.env.kindOf "ValueError" = some .globalImplicit) (mv : X.mg "ValueError" = none)
    (hi : X.N[i]? = some n) (hv : Vis X.env.scope n) (hd : (n == ("__debug__" : Str)) = false) (hcd : (n == ("__classdict__" : Str)) = false) :
    PE (X.suite a ((a, oe) :: pn)) (.Call (.Name "isinstance" q1) [.Name n q2, .Name "ValueError" q3] [] q4) (tKc i a d (.bl true)) := by
  obtain ⟨D, e, ed, h⟩ := xa.inv _ _ hx
  cases e
  refine peI (pe_callB (call_isD ed hz hfd) gi mi (by decide +kernel) (pa_cons (pk_name (a := a) hi hv hd hcd) (pa_cons (pe_bltn gv mv (u := .type "ValueError") (v := .ty "ValueError") (by decide +kernel) rfl (by decide) (by decide)) pa_nil rfl) rfl) (by decide) (by decide) rfl rfl) fun σ H Q q => ?_
  exact ⟨q.1.1, .ty "ValueError", .type "ValueError", true, rfl, fun _ e => e, ve _ _ hx, q.1.2, q.2⟩
theorem psx_lst (hN : X.N.Nodup) (hj : X.N[j]? = some x) (hx : Loc X.env.scope x) (h : PA X es (tKa i a d vs)) (hl : vs.length ≤ 900) (hs : swapsWith (.List es p3) (some (.Name x p2)) pos.line X.env = pure false) (hf : X.fn x = true ∨ X.env.scope.names.lookup x = some .local) :
    PS X (.Assign [.Name x p2] (.List es p3) pos) (txA i a d j vs) :=
  psI (ps_set hN hj hx (pe_lst h) hs hf) fun Dd σ H ⟨k, q⟩ => ⟨k, by rw [sizeLine_eq]; omega, q⟩
theorem psx_cat (hN : X.N.Nodup) (hj : X.N[j]? = some x) (hx : Loc X.env.scope x) (hv : Vis X.env.scope x) (hd : (x == ("__debug__" : Str)) = false) (hcd : (x == ("__classdict__" : Str)) = false) (h : PA X es (tKa i a d vs)) (hl : vs.length ≤ 900) (hs : swapsWith (.BinOp (.Name x p4) .Add (.List es p3) p5) (some (.Name x p2)) pos.line X.env = pure false) (hf : X.fn x = true ∨ X.env.scope.names.lookup x = some .local) :
    PS X (.Assign [.Name x p2] (.BinOp (.Name x p4) .Add (.List es p3) p5) pos) (txB i a d j vs) :=
  psI (ps_set hN hj hx (pe_op op_cat (pe_var hj hv hd hcd) (pe_lst h)) hs hf) fun Dd σ H ⟨k, p0, us, e1, e2, e3, q⟩ =>
    ⟨.ref p0, e1, k, by rw [sizeLine_eq]; omega, fun p1 h1 => ⟨p0, p1, us, vs, rfl, rfl, by rw [upd_ne (ne_of_none e2 h1)]; exact e2, upd_same, by rw [sizeLine_eq]; omega, fun p2 h2 => q p1 p2 h1 h2⟩⟩
theorem psx_app {apos cpos : Pos} (hj : X.N[j]? = some x) (hv : Vis X.env.scope x) (hd : (x == ("__debug__" : Str)) = false) (hcd : (x == ("__classdict__" : Str)) = false) (he : PE X e (tKc i a d v)) (hst : starEach [e] X.env = (false, eval e X.env) :: starEach [] X.env) (hline : (apos.endLine == cpos.line) = true) (hs : swapsWith (.Call (.Attribute (.Name x p2) "append" apos) [e] [] cpos) none pos.line X.env = pure false)
    (hfew : ((backTo cpos (starEach [e] X.env)).all (fun x => !x.1) && (backToKw cpos (keywordEach [] X.env)).all (fun x => x.1.isSome) && decide ([e].length + ([] : List Keyword).length + (if ([] : List Keyword).isEmpty then 0 else 1) < 30)) = true) :
    PS X (.Expr (.Call (.Attribute (.Name x p2) "append" apos) [e] [] cpos) pos) (txC i a d j v) :=
  psI (ps_expr (pe_bm PySem.F.plainAttrs_list PySem.F.slot_list_append PySem.F.type_list_append mt_append (pe_var hj hv hd hcd) (pa_cons he pa_nil hst) rfl hfew hline hst rfl) hs) fun Dd σ H ⟨k, p, us, hσ, hp, hl, q⟩ =>
    ⟨.ref p, hσ, .inl ⟨rfl, _, .inl (.inl hp)⟩, k, p, us, v, rfl, rfl, hp, by rw [sizeLine_eq]; omega, q⟩
theorem psx_set (hN : X.N.Nodup) (hj : X.N[j]? = some x) (hx : Loc X.env.scope x) (h : PE X e (tKc i a d v)) (hs : swapsWith e (some (.Name x p2)) pos.line X.env = pure false) (hf : X.fn x = true ∨ X.env.scope.names.lookup x = some .local) :
    PS X (.Assign [.Name x p2] e pos) (txD i a d j v) := psI (ps_set hN hj hx h hs hf) fun Dd σ H ⟨k, q⟩ => ⟨k, q⟩
theorem psx_line {oe : Obj} {pn : List (Addr × Obj)} {C0 C : Addr} {n mo : Str} {s : Str} {j1 j2 : Nat} {q1 q2 q3 q4 q5 q6 q7 : Pos} {ec : Nat → Option Value} (hS : s = "none") (pl : Pl X.prog X.w X.K X.mg X.base ec C0) (hz : Zc (.ref C) d oe) (hfd : ∃ vs, oe.data = .fields vs)
    (hN : (X.suite a ((a, oe) :: pn)).N.Nodup) (hj : X.N[j]? = some x) (hx : Loc X.env.scope x) (hi : X.N[i]? = some n) (hv : Vis X.env.scope n) (hd : (n == ("__debug__" : Str)) = false) (hcd : (n == ("__classdict__" : Str)) = false) (hm : X.N[jm]? = some mo) (hvm : Vis X.env.scope mo) (hdm : (mo == ("__debug__" : Str)) = false) (hcdm : (mo == ("__classdict__" : Str)) = false)
    (hb : attributeBase (.Name n q3) "line" X.env (eval (.Name n q3) X.env) = eval (.Name n q3) X.env)
    (hs : swapsWith (.IfExp (.Compare (.Name mo q1) [.Eq] [.Constant (.int 8) j1 q2] q7) (.Attribute (.Name n q3) "line" q4) (.Constant (.str s) j2 q5) q6) (some (.Name x p2)) pos.line X.env = pure false) (hf : (X.suite a ((a, oe) :: pn)).fn x = true ∨ X.env.scope.names.lookup x = some .local) :
    PS (X.suite a ((a, oe) :: pn)) (.Assign [.Name x p2] (.IfExp (.Compare (.Name mo q1) [.Eq] [.Constant (.int 8) j1 q2] q7) (.Attribute (.Name n q3) "line" q4) (.Constant (.str s) j2 q5) q6) pos) (txE i a d C0 C j jm) := by
  have px : PE (X.suite a ((a, oe) :: pn)) (.Attribute (.Name n q3) "line" q4) (tXf a (.ref C) d C0 "line" (tK i a (.ref a))) := pe_xf pl.xf pl.no hz hfd (pk_name (a := a) hi hv hd hcd) hb
  refine psI (ps_set hN hj hx (pe_ifExp (pt_cmpR op_eq (pe_var hm hvm hdm hcdm) pe_int rfl) px pe_str) hs hf) fun Dd σ H ⟨k, m, em, q8, qn⟩ => ?_
  refine ⟨.int m, em, rfl, ?_⟩
  by_cases h8 : m = 8
  · subst h8
    obtain ⟨hC, dd, v, rfl, hH, q⟩ := q8 rfl
    subst hC
    refine ⟨true, rfl, k.1, rfl, rfl, dd, [("line", v)], v, rfl, hH, rfl, q⟩
  · have : decide (V.int m = V.int 8) = false := decide_eq_false fun z => h8 (V.int.inj z)
    rw [this]
    refine ⟨false, rfl, ?_⟩
    have := qn h8
    subst hS
    exact this
end
/-! ### the suite as a whole -/
def tSx (i : Nat) (a C : Addr) (d : Option Addr) (x : Xn) (G : Cg) (s : Sx) : TS := fun Dd σ H => Pin i a σ ∧ ∃ A F r w o w', RelS G A F H σ r w ∧ XRep G.ec F H (.ref C) d x ∧ s G.c r w = some (o, w') ∧ PostS G { Dd with nx := fun σ' H' => Pin i a σ' → Dd.nx σ' H' } F o w'
theorem RelS.junk {G : Cg} {A : List Addr} {F H : Hp} {σ : St} {r : Env} {w : Om} {p : Addr} {u : HO} (rs : RelS G A F H σ r w) (hp : H p = none) : RelS G A F (upd H p u) σ r w :=
  have st : Step A F H A F (upd H p u) := .newO rs.rel.fh hp
  rs.step st (rs.rel.om.new st fun b v q => by rw [upd_ne (ne_of_none q hp)]; exact q)
theorem RelS.frsh {G : Cg} {A : List Addr} {F H : Hp} {σ : St} {r : Env} {w : Om} {p : Addr} {j : Nat} {vs : List V} {ds : List D} (rs : RelS G A F H σ r w) (hp : H p = none) (rp : RpAll F vs ds) (hM : G.M.contains j = true) : RelS G A F (upd H p (.lst vs)) (σ.set j (some (.ref p))) (r.set j (some (.list ds))) w := by
  have st : Step A F H A F (upd H p (.lst vs)) := .newO rs.rel.fh hp
  refine rs.setF st (rs.junk hp) ⟨p, vs, ds, rfl, rfl, hp, upd_same, ?_, rp⟩ hM
  cases h : F p with
  | none => rfl
  | some u => have := rs.rel.fh p u h; rw [hp] at this; cases this
theorem rp_bls {F : Hp} (f : Nat → Bool) : ∀ ks : List Nat, RpAll F (ks.map fun k => V.bl (f k)) (ks.map fun k => PyData.bool (f k))
  | [] => .nil
  | k :: r => .cons (.bl _) (rp_bls f r)
theorem six_end {G : Cg} {i jf ju jl jm : Nat} {a C C0 : Addr} {d : Option Addr} {x : Xn} {k1 k2 k3 : List Nat} {k4 : Nat} (hec : G.ec 1 = some (.ref C0)) (hl1 : k1.length + k2.length + k3.length ≤ 900) (hM : G.M.contains jf = true) (hMu : G.M.contains ju = false) (hMl : G.M.contains jl = false) (hMm : G.M.contains jm = false)
    (if_ : jf ≠ i) (iu : ju ≠ i) (il : jl ≠ i) (fm : jf ≠ jm) (um : ju ≠ jm) {Dd : Ends} {σ : St} {H : Hp} (h : tSx i a C d x G (sSix x jf ju jl jm (k1 ++ k2 ++ k3 ++ [k4])) Dd σ H) :
    tSeq (txA i a d jf (k1.map fun k => .bl (subX x.cls k))) (tSeq (txB i a d jf (k2.map fun k => .bl (subX x.cls k))) (tSeq (txB i a d jf (k3.map fun k => .bl (subX x.cls k))) (tSeq (txC i a d jf (.bl (subX x.cls k4))) (tSeq (txD i a d ju (.bl true)) (txE i a d C0 C jl jm))))) Dd σ H := by
  obtain ⟨pin, A, F, r, w, o, w', rs, xr, e, post⟩ := h
  unfold sSix at e
  split at e
  case h_2 => cases e
  rename_i m hrm
  split at e
  case isFalse => cases e
  rename_i hlt
  have kc : ∀ {σ : St} {H : Hp}, Pin i a σ → (∀ dd, d = some dd → ∃ fs, H dd = some (.xd fs)) → Kc i a d σ H := fun p q => ⟨⟨_, p.eq⟩, q⟩
  have dk0 : ∀ dd, d = some dd → ∃ v, H dd = some (.xd [("line", v)]) ∧ Rp F v x.line := fun dd hd => by
    rcases xr.2 with ⟨_, q⟩ | ⟨_, d', v, q, q2, q3⟩
    · rw [q] at hd; cases hd
    · rw [q] at hd; cases hd; exact ⟨v, q2, q3⟩
  have up : ∀ {H : Hp} {p : Addr} {u : HO}, H p = none → (∀ dd, d = some dd → ∃ v, H dd = some (.xd [("line", v)]) ∧ Rp F v x.line) → ∀ dd, d = some dd → ∃ v, upd H p u dd = some (.xd [("line", v)]) ∧ Rp F v x.line := fun hp q dd hd => by
    obtain ⟨v, h1, h2⟩ := q dd hd
    exact ⟨v, by rw [upd_ne (ne_of_none h1 hp)]; exact h1, h2⟩
  have wk : ∀ {H : Hp}, (∀ dd, d = some dd → ∃ v, H dd = some (.xd [("line", v)]) ∧ Rp F v x.line) → ∀ dd, d = some dd → ∃ fs, H dd = some (.xd fs) := fun q dd hd => by
    obtain ⟨v, h1, _⟩ := q dd hd
    exact ⟨_, h1⟩
  refine ⟨kc pin (wk dk0), fun p hp => ?_⟩
  have rs1 := rs.frsh hp (rp_bls (fun k => subX x.cls k) k1) hM
  have pin1 : Pin i a (σ.set jf (some (.ref p))) := pin.set if_
  have dk1 := up (u := .lst (k1.map fun k => .bl (subX x.cls k))) hp dk0
  have own : ∀ {H : Hp} {σ : St} {r' : Env} {ds : List D}, RelS G A F H σ (r.set jf (some (.list ds))) w → ∃ p vs, σ[jf]? = some (some (.ref p)) ∧ H p = some (.lst vs) ∧ F p = none ∧ RpAll F vs ds := fun q => own_at q (List.getElem?_set_self hlt) hM
  obtain ⟨b1, u1, g1, g2, g3, g4⟩ := own (r' := r) rs1
  refine ⟨kc pin1 (wk dk1), b1, u1, g1, g2, by rw [g4.length, List.length_map]; omega, fun p1 p2 hp1 hp2 => ?_⟩
  have rs2 := (rs1.junk (u := .lst (k2.map fun k => .bl (subX x.cls k))) hp1).frsh hp2 (g4.append (rp_bls (fun k => subX x.cls k) k2)) hM
  have sset : ∀ l1 l2 : List Nat, ((r.set jf (some (PyData.list (l1.map fun k => PyData.bool (subX x.cls k))))).set jf (some (PyData.list (l1.map (fun k => PyData.bool (subX x.cls k)) ++ l2.map fun k => PyData.bool (subX x.cls k)))) : Env) = r.set jf (some (.list ((l1 ++ l2).map fun k => PyData.bool (subX x.cls k)))) := fun l1 l2 => by rw [List.set_set, List.map_append]
  rw [sset k1 k2] at rs2
  have pin2 := pin1.set (u := some (.ref p2)) if_
  have dk2 := up (u := .lst (u1 ++ k2.map fun k => .bl (subX x.cls k))) hp2 (up (u := .lst (k2.map fun k => .bl (subX x.cls k))) hp1 dk1)
  obtain ⟨b2, u2, f1, f2, f3, f4⟩ := own (r' := r) rs2
  refine ⟨kc pin2 (wk dk2), b2, u2, f1, f2, by rw [f4.length, List.length_map, List.length_append]; omega, fun p3 p4 hp3 hp4 => ?_⟩
  have rs3 := (rs2.junk (u := .lst (k3.map fun k => .bl (subX x.cls k))) hp3).frsh hp4 (f4.append (rp_bls (fun k => subX x.cls k) k3)) hM
  rw [sset (k1 ++ k2) k3] at rs3
  have pin3 := pin2.set (u := some (.ref p4)) if_
  have dk3 := up (u := .lst (u2 ++ k3.map fun k => .bl (subX x.cls k))) hp4 (up (u := .lst (k3.map fun k => .bl (subX x.cls k))) hp3 dk2)
  obtain ⟨b3, u3, t1, t2, t3, t4⟩ := own (r' := r) rs3
  refine ⟨kc pin3 (wk dk3), b3, u3, t1, t2, by rw [t4.length, List.length_map, List.length_append, List.length_append]; omega, ?_⟩
  have rs4 := rs3.write (List.getElem?_set_self hlt) hM t1 t2 t3 (t4.append (rp_bls (fun k => subX x.cls k) [k4]))
  rw [sset (k1 ++ k2 ++ k3) [k4]] at rs4
  have dk4 : ∀ dd, d = some dd → ∃ v, upd _ b3 (.lst (u3 ++ [V.bl (subX x.cls k4)])) dd = some (.xd [("line", v)]) ∧ Rp F v x.line := fun dd hd => by
    obtain ⟨v, h1, h2⟩ := dk3 dd hd
    refine ⟨v, ?_, h2⟩
    rw [upd_ne (fun z => by rw [z, t2] at h1; cases h1)]
    exact h1
  refine ⟨kc pin3 (wk dk4), ?_⟩
  have rs5 := rs4.set (i := ju) (v := .bl true) (d := .bool true) (.inl (.bl true)) (by unfold ownd; rw [hMu]; rfl)
  have pin5 := pin3.set (u := some (.bl true)) iu
  have mv : ∀ {H : Hp} {σ : St}, RelS G A F H σ ((r.set jf (some (.list ((k1 ++ k2 ++ k3 ++ [k4]).map fun k => .bool (subX x.cls k))))).set ju (some (.bool true))) w → σ[jm]? = some (some (.int m)) := fun q => by
    obtain ⟨v, e1, e2⟩ := q.rel.fro jm (.int m) (by rw [List.getElem?_set_ne um, List.getElem?_set_ne fm]; exact hrm) (by unfold ownd; rw [hMm]; rfl)
    rw [e1, (show v = .int m from by rcases e2 with z | ⟨_, _, z, _⟩ | ⟨_, _, z, _⟩ | ⟨_, _, z, _⟩ <;> first | (cases z; rfl) | cases z)]
  refine ⟨kc pin5 (wk dk4), m, mv rs5, fun h8 => ?_, fun h8 => ?_⟩
  · rw [if_pos h8] at e
    split at e
    case isFalse => cases e
    rename_i hc1
    cases e
    rcases xr.2 with ⟨hn1, _⟩ | ⟨_, dd, v, hdd, hH, rv⟩
    · exact absurd hc1 hn1
    have hC : C = C0 := by
      have e1 := xr.1
      rw [hc1, hec] at e1
      cases e1; rfl
    obtain ⟨v', h1, h2⟩ := dk4 dd hdd
    exact ⟨hC, dd, v', hdd, h1, post _ A F _ (rs5.set (i := jl) (.inl h2) (by unfold ownd; rw [hMl]; rfl)) (.refl F) (pin5.set il)⟩
  · rw [if_neg h8] at e
    cases e
    exact post _ A F _ (rs5.set (i := jl) (.inl (.str "none")) (by unfold ownd; rw [hMl]; rfl)) (.refl F) (pin5.set il)
section
variable {X : Cx} {G : Cg} {body suite : List Stmt} {b0 : Stmt} {pos np pos' : Pos} {db : Sx} {dsu : Xn → Sx} {k i : Nat} {n cn : Str} {xs : List (Nat × Str)}
theorem psd_tryE2 (hs : X.stack = X.env :: X.outer) (hf : X.env.frame = some X.env.locals) (hN : X.N.Nodup) (tk : Takes X G.W) (hi : X.N[i]? = some n) (hln : X.env.kindOf n = some .local) (xa : XAl2 X.K X.mg G.ec xs) (hx : xs.lookup k = some cn) (gx : Gl X cn) (dx : (cn == ("__debug__" : Str)) = false)
    (hb : ∀ (W : WX) (F0 : Hp) (pn : List (Addr × Obj)) (xe : Value → Shared → Prop), Takes (X.tr pn xe) W → PassesOwn (model X.prog X.w) X.A X.env xe → PSs (X.tr pn xe) body (tS { G with W := W, F0 := F0 } db))
    (hsu : ∀ (a : Addr) (oe : Obj) (C : Addr) (d : Option Addr) (pn : List (Addr × Obj)) (x : Xn), G.ec x.cls = some (.ref C) → Zc (.ref C) d oe → (∃ vs, oe.data = .fields vs) → PSs (X.suite a ((a, oe) :: pn)) (b0 :: suite) (tSx i a C d x G (dsu x))) :
    PS X (.Try body [.ExceptHandler (some (.Name cn np)) (some n) (b0 :: suite) pos'] [] [] pos) (tS G (sTryE db k i dsu)) := by
  obtain ⟨C0, a1, a2⟩ := xa.glo k cn hx
  refine psI (ps_try_as (c := .ref C0) (i := i) (ts := fun a cls d Dd σ H => ∃ x C, cls = .ref C ∧ G.ec x.cls = some (.ref C) ∧ tSx i a C d x G (dsu x) Dd σ H) hs hf hN hi hln ⟨gx, dx, .inl a2⟩ tk
    (tb := fun W => fun Dd σ H => ∃ F0, tS { G with W := W, F0 := F0 } db Dd σ H) (fun W pn xe t1 t2 => ⟨fun pins s σ H Dd I ⟨F0, q⟩ => (hb W F0 pn xe t1 t2).run pins s σ H Dd I q⟩)
    (fun a oe cls d pn hz hfd => ⟨fun pins s σ H Dd I ⟨x, C, e1, e3, q⟩ => by subst e1; exact (hsu a oe C d pn x e3 hz hfd).run pins s σ H Dd I q⟩)) fun Dd σ H ⟨A, F, r, w, x, w', rs, e, post⟩ => ?_
  unfold sTryE at e
  refine ⟨F, A, F, r, w, ?_⟩
  generalize hq : db G.c r w = q at e
  cases q with
  | none => cases e
  | some pr =>
    obtain ⟨o, w1⟩ := pr
    refine ⟨o, w1, ⟨rs.rel, rs.ent.self, rs.new⟩, by first | rfl | exact hq, ?_⟩
    cases o with
    | next r1 =>
      cases e
      exact fun σ' A' F' H' q s => post σ' A' F' H' ⟨q.rel, rs.ent.base q.ent, q.new⟩ s
    | ret d =>
      cases e
      exact fun v A' F' H' q o rt => post v A' F' H' (rs.ent.base q) o rt
    | exc y r1 =>
      intro cls dd σ1 A1 F1 H1 q xr
      have ff : Same F F1 := q.ent.ff
      have rs1 : RelS G A1 F1 H1 σ1 r1 w1 := ⟨q.rel, rs.ent.base q.ent, q.new⟩
      obtain ⟨D, rfl, ed, hh⟩ := xa.inv _ cls xr.1
      refine ⟨subX y.cls k, (hh k cn _ hx a2).1, fun hb a na => ?_, fun hb => ?_⟩
      · simp only [hb] at e
        simp only [if_true] at e
        split at e
        · rename_i hlt
          split at e
          · rename_i r2 w2 hsu2
            cases e
            refine ⟨y, D, rfl, xr.1, ?_, A1, F1, _, w1, _, w', rs1.hide, xr, hsu2, ?_⟩
            · unfold Pin
              rw [List.getElem?_set_self (by rw [rs1.rel.len]; exact hlt)]
            · intro σ2 A2 F2 H2 rs2 k2 _
              exact post _ A2 F2 H2 rs2.hide (ff.trans k2)
          · cases e
        · cases e
      · simp only [hb] at e
        rw [if_neg (by decide)] at e
        cases e
        exact post _ dd σ1 A1 F1 H1 rs1 xr
end
end Rx

set_option Elab.async false
set_option linter.all false
set_option maxRecDepth 100000
set_option maxHeartbeats 3200000
set_option autoImplicit false
/-! RxS33: sorted(set(t)), t a tuple of pairs. -/
namespace L2
open PySem PySem.Spec PyProof.Rows
section
variable {P : Program} {w : World} {A : Around} {E : Value → Shared → Prop} {s : Shared}
/-- set(t), t a tuple of tuples of ints -/
theorem call_set_tupsT {l : Addr} {items : Array Value} (ks : List (Addr × List Int)) {Q : Value → Shared → Prop} (hh : A.handled = none) (hl : s.heap.IsTuple l items) (hit : items.toList = ks.map fun p => Value.ref p.1)
    (hk : ∀ p ∈ ks, IsT P w s.heap p.2 p.1) (hfew : ks.length < 64) (hu : A.units + 3 < cLine)
    (h : ∀ (h' : Heap) (tk : Nat) L es ep t, SetTR P w h' s.heap.objs.size L es ep t → Got ks ks.length L → (∀ b o, s.heap.get? b = some o → h'.get? b = some o) → Q (.ref s.heap.objs.size) { s with heap := h', toks := tk }) :
    wpAny (model P w) A (call (.type "set") [.ref l]) Q E s := by
  have hisz : items.size = ks.length := by
    rw [← Array.length_toList, hit, List.length_map]
  have none_of : ∀ b, s.heap.objs.size ≤ b → s.heap.get? b = none := fun b hb => by
    cases q : s.heap.get? b with
    | none => rfl
    | some o => exact absurd (Nat.lt_of_lt_of_le (Heap.lt_size q) hb) (Nat.lt_irrefl _)
  have hval : ∀ (i : Nat) (v : Value), items[i]? = some v → ∃ p, ks[i]? = some p ∧ v = .ref p.1 := fun i v hv => by
    rw [← Array.getElem?_toList, hit, List.getElem?_map, Option.map_eq_some_iff] at hv
    obtain ⟨p, e1, e2⟩ := hv
    exact ⟨p, e1, e2.symm⟩
  obtain ⟨c, tl, hmro⟩ := F.called_set.mro
  have hmade := F.called_set.made
  have hsub := F.called_set.sub
  refine wpAny_call (codeAny_of_tree ?_)
  show wpAny _ _ (callAny (.type "set") _) _ _ _
  refine wpAny_pure ⟨Code.quiet_builtin _ (by decide +kernel), codeAny_builtin F.entry_type_call ?_⟩
  rw [Around.under_plain (weight_type_call_type "set" [.ref l] []) rfl]
  have h1 := F.called_set.notType
  have h2 := F.called_set.canCreate
  have hct := F.typeCall_set_1 (.ref l)
  repeat (any_goals (first | assumption | wp_step))
  obtain ⟨so, hso⟩ : ∃ so : Obj, so = { cls := .type "set", dict := none, data := .set #[] 0 (.fresh 0 0 (!w.params.followText "set-order")) } := ⟨_, rfl⟩
  refine codeAny_mono (code_set_led1 (.ref l) (E := E) (Q₁ := fun obj s₁ => obj = .ref s.heap.objs.size ∧ s₁ = { s with heap := s.heap.push so }) ⟨rfl, by rw [hso]⟩) fun r s₁ hr => ?_
  cases r with
  | error e => exact hr
  | ok fl =>
    cases fl with
    | ret obj =>
      obtain ⟨rfl, rfl⟩ := hr
      have hS : (s.heap.push so).get? s.heap.objs.size = some so := Heap.get?_push_size _ (by rw [hso]; rfl)
      have hT : Shared.TypeIs { s with heap := s.heap.push so } (.ref s.heap.objs.size) "set" := ⟨_, hS, by rw [hso]⟩
      have hli := F.called_set.init.lookup
      have hbi := F.called_set.init.bind (.ref s.heap.objs.size)
      repeat (any_goals (first | assumption | wp_step))
      refine codeAny_mono (codeAny_call_builtin (R := wants (fun r s₂ => r = .none ∧ ∃ h' tk L es ep t, s₂ = { s with heap := h', toks := tk } ∧ SetTR P w h' s.heap.objs.size L es ep t ∧ Got ks ks.length L ∧
          (∀ b o, s.heap.get? b = some o → h'.get? b = some o)) E) F.called_set.init.plain F.entry_set_init (check_set_init_1 hT ?_)) fun r₂ s₂ hr₂ => ?_
      · subst hso
        obtain ⟨ol, hol, hcl, nl, hdl⟩ := hl
        obtain ⟨ocls, odict, odata, oslots⟩ := ol
        simp only at hcl hdl
        subst hcl; subst hdl
        have hol' : (s.heap.push ({ cls := .type "set", dict := none, data := .set #[] 0 (.fresh 0 0 (!w.params.followText "set-order")) } : Obj)).get? l = some { cls := .type "tuple", dict := odict, data := .seq items nl, slots := oslots } := Heap.get?_push_of_some _ hol
        have hsls := F.sub_tuple_set
        have hslf := F.sub_tuple_frozenset
        have hne : (Value.type "tuple" == Value.type "dict") = false := by decide
        have hl1 : (s.heap.push ({ cls := .type "set", dict := none, data := .set #[] 0 (.fresh 0 0 (!w.params.followText "set-order")) } : Obj)).IsTuple l items := ⟨_, hol', rfl, nl, rfl⟩
        unfold Builtin.«set.__init__» noKeywords Builtin.Frozenset.updateFrom
        generalize hPI : pyIter = PI
        wp_walk
        subst hPI
        refine wpAny_pyIter_tuple (show Heap.IsTuple (Shared.heap { s with heap := s.heap.push ({ cls := .type "set", dict := none, data := .set #[] 0 (.fresh 0 0 (!w.params.followText "set-order")) } : Obj) }) l items from hl1) ?_
        refine wpAny_bind (wpAny_runValue ?_)
        have hlS : l < s.heap.objs.size := Heap.lt_size hol
        have hh3 : A.in1.in1.in1.handled = none := by simp [hh]
        have hneI : l ≠ (s.heap.push ({ cls := .type "set", dict := none, data := .set #[] 0 (.fresh 0 0 (!w.params.followText "set-order")) } : Obj)).objs.size := by
          rw [Heap.size_push]; exact Nat.ne_of_lt (Nat.lt_succ_of_lt hlS)
        have hSf : s.heap.objs.size ∉ [(s.heap.push ({ cls := .type "set", dict := none, data := .set #[] 0 (.fresh 0 0 (!w.params.followText "set-order")) } : Obj)).objs.size, l] := by
          rw [Heap.size_push]; simp only [List.mem_cons, List.mem_singleton, List.not_mem_nil, or_false, not_or]
          exact ⟨Nat.ne_of_lt (Nat.lt_succ_self _), Nat.ne_of_gt hlS⟩
        refine set_update_tups ((Walks.tuple hh3 _ l hneI items).toS) s.heap.objs.size
          hSf ks hisz hfew hval s.heap hk (none_of _ (Nat.le_refl _)) (fun b hb => none_of b (by
            rw [List.mem_singleton.mp hb, Heap.size_push]
            exact Nat.le_succ _)) hu (items.size - 0) 0 _ (by omega) (Nat.zero_le _)
          ⟨⟨_, Heap.get?_push_size _ rfl, rfl, rfl⟩, (hl1.push _)⟩ (fun b o e => Heap.get?_push_of_some _ (Heap.get?_push_of_some _ e)) ⟨[], #[], 0, _, setTR_fresh ((Heap.get?_push_of_some _ hS).trans rfl), Got.zero ks⟩ fun s' L es ep t hm hS' g' hkp => ?_
        obtain ⟨h', g2, d', tk', os'⟩ := s'
        have eg : g2 = s.gens := hm.gens
        have ed : d' = s.drawn := hm.drawn
        have eo : os' = s.os := hm.os
        subst eg; subst ed; subst eo
        show wpAny _ _ _ _ _ _
        refine wpAny_pure ?_
        show wpAny _ _ (ret Value.none) _ _ _
        rw [hisz] at g'
        exact wpAny_pure ⟨rfl, h', tk', L, es, ep, t, rfl, hS', g', hkp⟩
      · cases r₂ with
        | error e => exact hr₂
        | ok fl₂ =>
          cases fl₂ with
          | ret r =>
            obtain ⟨rfl, h', tk, L, es, ep, t, rfl, hS', g', hk'⟩ := hr₂
            repeat (any_goals (first | assumption | wp_step))
            exact h _ _ _ _ _ _ hS' g' hk'
          | _ => exact hr₂.elim
    | _ => exact hr.elim
end
section
variable {X : Cx}
def rSetOfTT (K : PySem.W.Frag) (P : Program) (w : World) : List V → Hp → VK → Prop := fun xs H Q => ∃ (l : Addr) (ks : List (Addr × List Int)), xs = [V.ref l] ∧ SqT K H l (ks.map fun p => V.ref p.1) ∧ (∀ p ∈ ks, SqT K H p.1 (p.2.map V.int)) ∧ ks.length < 64 ∧
  ∀ a L, H a = none → (∀ p ∈ L, p ∈ ks) → (∀ p ∈ ks, p.2 ∈ L.map (·.2)) → Q (.ref a) (upd H a (SetTO P w a L))
theorem cr_setOfTT (hc : X.calm = true) (hu : X.A.units + 64 < cLine) : CallR X (.type "set") (rSetOfTT X.K X.prog X.w) := by
  intro pins s σ H xs us Q I r h
  obtain ⟨l, ks, rfl, hl, hk, hf, q⟩ := h
  rw [Vals.ref1 r]
  obtain ⟨its, rv, pl, hz⟩ := I.tuple hl
  have hn : H s.heap.objs.size = none := I.hok.fresh (Nat.le_refl _)
  refine call_set_tupsT (P := X.prog) (w := X.w) ks (I.ok.hd hc) pl (by simpa using refs_of_vals rv) (fun p hp => I.isT (hk p hp)) hf (by omega) fun h' tk L es ep t R g k => ?_
  exact ⟨.ref s.heap.objs.size, upd H s.heap.objs.size (SetTO X.prog X.w s.heap.objs.size L), I.laid (t' := tk) k (Nat.le_refl _) (setTO_new R.t0), rfl, q _ L hn (fun p hp => List.mem_of_mem_take (g.sub p hp)) fun p hp => g.all p (by rw [List.take_length]; exact hp)⟩
end
end L2
namespace Rx
open PySem L2
section
variable {X : Cx} {G : Cg} {a : Expr} {da : Ex} {pos p1' p2' p3' : Pos}
theorem sst_args {σ : St} {H : Hp} {Q : VK} (h : tD G (dSst da) σ H Q) : tO G da σ H fun v H1 => ∃ A F w d e, Same F H1 ∧ Omg G.C A F H1 w ∧ Ro G.K A F H1 v d ∧ ssetT d = some e ∧ Fin G A F H1 w e Q := by
  obtain ⟨A, F, r, w, x, w', rel, e, post⟩ := h
  unfold dSst at e
  cases hs : da G.c r w with
  | none => rw [hs] at e; cases e
  | some q =>
    obtain ⟨x1, w1⟩ := q
    rw [hs] at e
    cases x1 with
    | exc y => cases e; exact ⟨A, F, r, w, .exc y, _, rel, hs, post⟩
    | val d =>
      simp only at e
      rw [Option.map_eq_some_iff] at e
      obtain ⟨v, e1, e2⟩ := e
      cases e2
      exact ⟨A, F, r, w, .val d, _, rel, hs, fun u A1 F1 H1 s1 o1 r1 => ⟨A1, F1, _, d, v, s1.fh, o1, r1, e1, fun v A2 F2 H2 s2 o2 r2 => post v A2 F2 H2 (s1.trans s2) o2 r2⟩⟩
theorem pd_ssetT (hc : X.calm = true) (hK : G.K = X.K) (hu : X.A.units + 64 < cLine) (hg : Gl X "sorted") (hm : X.mg "sorted" = none) (hg2 : Gl X "set") (hm2 : X.mg "set" = none) (ha : PE X a (tO G da)) (hst : starEach [a] X.env = (false, eval a X.env) :: starEach [] X.env)
    (hst2 : starEach [.Call (.Name "set" p2') [a] [] p3'] X.env = (false, eval (.Call (.Name "set" p2') [a] [] p3') X.env) :: starEach [] X.env) :
    PE X (.Call (.Name "sorted" p1') [.Call (.Name "set" p2') [a] [] p3'] [] pos) (tD G (dSst da)) := by
  refine peI (pe_callB (cr_sortedT hc) hg hm (by decide +kernel) (pa_cons (pe_callTy (cr_setOfTT hc hu) hg2 hm2 (by decide +kernel) (pa_cons ha pa_nil hst) (by decide) (by decide) hst rfl) pa_nil hst2) (by decide) (by decide) hst2 rfl)
    fun σ H Q h => tO_imp (sst_args h) fun v H1 ⟨A, F, w, d1, d, s, o, r1, e, f⟩ => ?_
  cases d1 with
  | tuple ds =>
    obtain ⟨l, vs, rfl, hl, rp⟩ := r1.tup
    replace e : ((prsOf ds).bind fun ps => if ps.length < 64 ∧ ps.all prOk = true then some (PyData.list ((usort prKey ps).map dPr)) else none) = some d := e
    rw [Option.bind_eq_some_iff] at e
    obtain ⟨ps, hps, e⟩ := e
    split at e
    · rename_i hlt
      cases e
      have := prsOf_some hps
      subst this
      obtain ⟨ks, rfl, ek, hk⟩ := rp_prs rp
      have lk : ks.length = ps.length := by
        have := congrArg List.length ek
        simpa using this
      have bd : ∀ p ∈ ks, ∃ z : Int × Int, prOk z = true ∧ p.2 = [z.1, z.2] ∧ z ∈ ps := fun p hp => by
        have : p.2 ∈ ks.map (·.2) := List.mem_map.mpr ⟨p, hp, rfl⟩
        rw [ek] at this
        obtain ⟨z, hz, ez⟩ := List.mem_map.mp this
        exact ⟨z, List.all_eq_true.mp hlt.2 z hz, ez.symm, hz⟩
      refine ⟨l, ks, rfl, .inl (.inl (s _ _ hl)), fun p hp => .inl (.inl (s _ _ (hk p hp))), by omega, fun p L hp hsub hall => ⟨p, L, 2, 64, rfl, upd_same, fun y hy => ?_, by omega, fun y hy => ?_, fun L' q pm nd l64 asc hq => ?_⟩⟩
      · refine .inl (.inl ?_)
        have hy1 := s _ _ (hk y (hsub y hy))
        rw [upd_ne (ne_of_none hy1 hp)]
        exact hy1
      · obtain ⟨z, hz, e2, _⟩ := bd y (hsub y hy)
        unfold prOk at hz
        simp only [decide_eq_true_eq] at hz
        rw [e2]
        refine ⟨rfl, fun n hn => ?_⟩
        simp at hn
        omega
      · have hpq : q ≠ p := by
          intro z; subst z; rw [upd_same] at hq; cases hq
        have hmem : ∀ y ∈ L', y ∈ ks := fun y hy => hsub y (pm.mem_iff.mp hy)
        -- the pairs of L'
        let qs : List (Int × Int) := L'.map fun y => (y.2.getD 0 0, y.2.getD 1 0)
        have eL : L'.map (·.2) = qs.map fun p => [p.1, p.2] := by
          rw [List.map_map]
          refine List.map_congr_left fun y hy => ?_
          obtain ⟨z, _, e2, _⟩ := bd y (hmem y hy)
          simp [e2]
        have inj : ∀ a ∈ ps, ∀ b ∈ ps, prKey a = prKey b → a = b := fun a ha b hb e => by
          have h1 := List.all_eq_true.mp hlt.2 a ha
          have h2 := List.all_eq_true.mp hlt.2 b hb
          unfold prOk at h1 h2
          unfold prKey at e
          simp only [decide_eq_true_eq] at h1 h2
          exact Prod.ext (by omega) (by omega)
        have eq : qs = usort prKey ps := by
          refine asc_one (key := prKey) ?_ usort_asc fun x => ?_
          · show (L'.map fun y => (y.2.getD 0 0, y.2.getD 1 0)).Pairwise _
            rw [List.pairwise_map]
            have nd2 : L'.Pairwise fun y z => y.2 ≠ z.2 := List.pairwise_map.mp nd
            refine (asc.and nd2).imp_of_mem fun {y z} hy hz ⟨h1, h2⟩ => ?_
            obtain ⟨a, oa, ea, ma⟩ := bd y (hmem y hy)
            obtain ⟨b, ob, eb, mb⟩ := bd z (hmem z hz)
            rw [ea, eb, code_pair, code_pair] at h1
            have h3 : a ≠ b := fun e => h2 (by rw [ea, eb, e])
            have h4 : prKey a ≠ prKey b := fun e => h3 (inj a ma b mb e)
            simp only [ea, eb]
            unfold prKey at h4 ⊢
            simp
            omega
          · rw [usort_mem inj]
            refine ⟨fun h => ?_, fun h => ?_⟩
            · obtain ⟨y, hy, rfl⟩ := List.mem_map.mp h
              obtain ⟨z, _, ez, mz⟩ := bd y (hmem y hy)
              simpa [ez] using mz
            · have h1 : ([x.1, x.2] : List Int) ∈ ks.map (·.2) := by rw [ek]; exact List.mem_map.mpr ⟨x, h, rfl⟩
              obtain ⟨k, hk1, hk2⟩ := List.mem_map.mp h1
              obtain ⟨y, hy, ey⟩ := List.mem_map.mp (hall k hk1)
              refine List.mem_map.mpr ⟨y, pm.mem_iff.mpr hy, ?_⟩
              rw [ey, hk2]
              rfl
        rw [← eq] at f
        have st1 : Step A F H1 A F (upd H1 p (SetTO X.prog X.w p L)) := .newO s hp
        have o1 := o.new st1 (keep_new hp)
        refine f _ A _ _ (st1.trans (.new st1.fh hq)) (o1.new (.new st1.fh hq) (keep_new hq)) (.inl (.lst upd_same ?_))
        refine RpAll.mono (Fin.tup.same_upd_ (st1.fh.free hq)) _ _ (rp_of_prs eL fun y hy => hk y (hmem y hy))
    · cases e
  | _ => cases e
end
end Rx

set_option Elab.async false
set_option linter.all false
set_option maxRecDepth 100000
set_option maxHeartbeats 3200000
set_option autoImplicit false
/-! RxS34: set(xs), xs a list of rows (tuples of pairs of ints) no two of which hash alike; up to 300 of them. -/
namespace L2
open PySem PySem.Spec PyProof.Rows
/-! ### the masks up to 511 -/
def Fl (m : Nat) : Prop := m = 7 ∨ m = 31 ∨ m = 127 ∨ m = 511
def orbL : Nat → Nat → List Nat
  | 0, _ => []
  | k + 1, x => x :: orbL k ((x * 5 + 1) % 512)
theorem lcgI_sh (i : Nat) : ∀ k, lcgI 511 ((i * 5 + 1) % 512) k = lcgI 511 i (k + 1)
  | 0 => rfl
  | k + 1 => by
    show (lcgI 511 ((i * 5 + 1) % 512) k * 5 + 1) % 512 = (lcgI 511 i (k + 1) * 5 + 1) % 512
    rw [lcgI_sh i k]
theorem orb_mem {j : Nat} : ∀ (n x : Nat), j ∈ orbL n x → ∃ k, k < n ∧ lcgI 511 x k = j
  | 0, _, h => by cases h
  | n + 1, x, h => by
    rcases List.mem_cons.mp h with e | h
    · exact ⟨0, Nat.succ_pos _, e.symm⟩
    · obtain ⟨k, hk, e⟩ := orb_mem n _ h
      exact ⟨k + 1, Nat.succ_lt_succ hk, by rw [← lcgI_sh]; exact e⟩
theorem orb_all : ((List.range 512).all fun j => (orbL 512 0).contains j) = true := by decide +kernel
theorem lcgI_add (m i a : Nat) : ∀ k, lcgI m (lcgI m i a) k = lcgI m i (a + k)
  | 0 => rfl
  | k + 1 => by
    show (lcgI m (lcgI m i a) k * 5 + 1) % (m + 1) = (lcgI m i (a + k) * 5 + 1) % (m + 1)
    rw [lcgI_add m i a k]
theorem lcgI_511 : lcgI 511 0 512 = 0 := by decide +kernel
theorem from0 {j : Nat} (h : j ≤ 511) : ∃ k, k < 512 ∧ lcgI 511 0 k = j :=
  orb_mem 512 0 (List.contains_iff_mem.mp (List.all_eq_true.mp orb_all j (List.mem_range.mpr (Nat.lt_succ_of_le h))))
theorem all511 {i j : Nat} (hi : i ≤ 511) (hj : j ≤ 511) : ∃ k, k ≤ 511 ∧ lcgI 511 i k = j := by
  obtain ⟨a, ha, rfl⟩ := from0 hi
  obtain ⟨b, hb, rfl⟩ := from0 hj
  rcases Nat.lt_or_ge b a with c | c
  · refine ⟨512 - a + b, by omega, ?_⟩
    rw [lcgI_add, show a + (512 - a + b) = 512 + b by omega, ← lcgI_add 511 0 512 b, lcgI_511]
  · refine ⟨b - a, by omega, ?_⟩
    rw [lcgI_add, show a + (b - a) = b by omega]
theorem meetsF {m : Nat} (hm : Fl m) (h : Int) {j : Nat} (hj : j ≤ m) : ∃ n, n ≤ m + 12 ∧ runI m (SetTable.bits h) n = j := by
  rcases hm with e | e | e | e
  · exact run_meets (.inl e) h hj
  · exact run_meets (.inr (.inl e)) h hj
  · exact run_meets (.inr (.inr e)) h hj
  · subst e
    obtain ⟨k, hk, e⟩ := all511 (runI_le 511 (SetTable.bits h) 12) hj
    exact ⟨12 + k, by omega, by rw [runI_tail (bits_lt h)]; exact e⟩
theorem way_in (m : Nat) (h : Int) (k : Nat) : way m h k ≤ m := by
  have r := runEnd_bd (m := m) (i := SetTable.bits h % (m + 1)) (Nat.le_of_lt_succ (Nat.mod_lt _ (Nat.succ_pos _)))
  have q := nth_in (m := m) k (runAt m (SetTable.bits h % (m + 1)) (SetTable.bits h)) (by unfold runAt; simp only; omega)
  exact Nat.le_trans (Nat.le_add_right _ _) q
theorem fl_odd {m : Nat} (h : Fl m) : m % 2 = 1 := by rcases h with e | e | e | e <;> subst e <;> rfl
/-- a probe for a hash that no entry has ends at an empty slot -/
theorem probeF {t : SetTable} (r : Ris t.place.toList) (hd : t.dummies = #[]) (fl : Fl t.mask) (hl : t.place.size ≤ t.mask) {hashAt : Nat → Int} {h : Int} (hne : ∀ i, i < t.place.size → hashAt i ≠ h) :
    ∃ j, j ∉ t.place.toList ∧ t.probe hashAt h (t.probeStart h) = some (.empty j none) := by
  obtain ⟨j, hj, hn⟩ := st_missing t.place.toList (t.mask + 1) (by rw [Array.length_toList]; omega)
  obtain ⟨n, hn2, e⟩ := meetsF fl h (Nat.le_of_lt_succ hj)
  obtain ⟨k, hk, e2⟩ := run_nth t.mask (SetTable.bits h) n
  have wk : way t.mask h k = j := by show (nth _ _ k).j = j; rw [e2]; exact e
  obtain ⟨K, k1, k2, k3⟩ := st_least (p := fun k => way t.mask h k ∉ t.place.toList) k (by show way t.mask h k ∉ _; rw [wk]; exact hn)
  have hb : ∀ c, c < K → way t.mask h c ∈ t.place.toList := fun c hc => Classical.byContradiction fun z => k3 c hc z
  refine ⟨way t.mask h K, k2, ?_⟩
  rcases go_spec t r hd hashAt h (10 * SetTable.turns t.mask) K (t.probeStart h) rfl (by unfold SetTable.turns; omega) hb k2 with ⟨c, i, hc, hi, hh, _⟩ | ⟨_, z⟩
  · have : i < t.place.toList.length := (List.getElem?_eq_some_iff.mp hi).1
    exact absurd hh (hne i (by rw [← Array.length_toList]; exact this))
  · exact z
/-! ### the table laid anew -/
/-- who sits where, when k have been laid -/
structure Sit (m k : Nat) (owner : Array (Option Nat)) : Prop where
  sz : owner.size = m + 1
  all : ∀ i, i < k → ∃ j, j ≤ m ∧ oAt owner j = some i
  ps : ∃ ps : List Nat, ps.length = k ∧ ∀ j, j ≤ m → oAt owner j ≠ none → j ∈ ps
theorem sit_step {m k : Nat} (hm : Fl m) {owner : Array (Option Nat)} (W : Sit m k owner) (hl : k ≤ m) (h : Int) :
    ∃ j, SetTable.layClean.free m owner (SetTable.turns m) (SetTable.bits h % (m + 1)) (SetTable.bits h) = some j ∧ Sit m (k + 1) (owner.setIfInBounds j (some k)) := by
  obtain ⟨ps, hps, hin⟩ := W.ps
  obtain ⟨j0, h0, hn0⟩ := st_missing ps (m + 1) (by omega)
  have hj0 : oAt owner j0 = none := Classical.byContradiction fun z => hn0 (hin j0 (Nat.le_of_lt_succ h0) z)
  obtain ⟨n, hn, e⟩ := meetsF hm h (Nat.le_of_lt_succ h0)
  have hw : way m h (off m (SetTable.bits h % (m + 1)) (SetTable.bits h) n) = j0 := by
    show (nth _ _ _).j = j0
    rw [nth_off, itL_run]
    exact e
  obtain ⟨K, k1, k2, k3⟩ := st_least (p := fun c => oAt owner (way m h c) = none) _ (show oAt owner (way m h (off m (SetTable.bits h % (m + 1)) (SetTable.bits h) n)) = none by rw [hw]; exact hj0)
  have hjs : way m h K < owner.size := by rw [W.sz]; exact Nat.lt_succ_of_le (way_in m h K)
  refine ⟨way m h K, free_spec m owner (SetTable.turns m) n _ _ K (by unfold SetTable.turns; omega) k1 (fun c hc => ?_) ?_, ?_⟩
  · have q := k3 c hc
    show (oAt owner (way m h c)).isNone = false
    cases z : oAt owner (way m h c) with
    | none => exact absurd z q
    | some _ => rfl
  · show (oAt owner (way m h K)).isNone = true
    rw [k2]; rfl
  · refine ⟨by rw [Array.size_setIfInBounds]; exact W.sz, fun i hi => ?_, ⟨way m h K :: ps, by rw [List.length_cons, hps], fun j hj z => ?_⟩⟩
    · rcases Nat.lt_succ_iff_lt_or_eq.mp hi with c | c
      · obtain ⟨j, hj, ej⟩ := W.all i c
        refine ⟨j, hj, ?_⟩
        rw [oAt_set_ne _ (fun y => by rw [y, k2] at ej; cases ej)]
        exact ej
      · exact ⟨way m h K, way_in m h K, by rw [c]; exact oAt_set_self _ hjs⟩
    · by_cases c : j = way m h K
      · rw [c]; exact List.mem_cons_self
      · rw [oAt_set_ne _ c] at z
        exact List.mem_cons_of_mem _ (hin j hj z)
theorem sit_all {m : Nat} (hm : Fl m) : ∀ (hs : List Int) (k : Nat) (owner : Array (Option Nat)), Sit m k owner → k + hs.length ≤ m → ∃ owner', hs.foldl (stepF m) (some (owner, k)) = some (owner', k + hs.length) ∧ Sit m (k + hs.length) owner'
  | [], k, owner, W, _ => ⟨owner, rfl, W⟩
  | h :: hs, k, owner, W, hl => by
    rw [List.length_cons] at hl ⊢
    obtain ⟨j, e, W1⟩ := sit_step hm W (by omega) h
    obtain ⟨o2, f, W2⟩ := sit_all hm hs (k + 1) _ W1 (by omega)
    rw [show k + (hs.length + 1) = k + 1 + hs.length by omega]
    exact ⟨o2, by rw [List.foldl_cons, stepF_some e]; exact f, W2⟩
theorem relaidF (t : SetTable) {hs : Array Int} {wanted M : Nat} (hw : SetTable.sizeAbove wanted - 1 = M) (hM : Fl M) (hn : hs.size ≤ M) :
    ∃ t' order, t.relaid hs wanted = some (t', order) ∧ order.toList.Perm (List.range hs.size) ∧ Ris t'.place.toList ∧ t'.dummies = #[] ∧ t'.place.size = hs.size ∧ t'.mask = M ∧ t'.led = t.led ∧ t'.plain = t.plain := by
  obtain ⟨owner, f, W⟩ := sit_all hM hs.toList 0 (Array.replicate (M + 1) none) ⟨by simp, fun i hi => by omega, ⟨[], rfl, fun j hj z => absurd (oAt_init hj) z⟩⟩ (by rw [Array.length_toList]; omega)
  rw [Nat.zero_add, Array.length_toList] at f W
  have hr : t.relaid hs wanted = some (tabOf t M owner, ((liveOf M owner).map (·.2)).toArray) := by
    rw [relaid_eq, hw, layClean_eq, f]; rfl
  have ris := (relaid_ris hr).1
  have nd : ((liveOf M owner).map (·.1)).Nodup := List.Pairwise.imp (fun h => Nat.ne_of_lt h) (show Ris ((liveOf M owner).map (·.1)) from ris)
  have hall : ∀ k, k < hs.size → k ∈ (liveOf M owner).map (·.2) := fun k hk => by
    obtain ⟨j, b1, b2⟩ := W.all k hk
    exact List.mem_map.mpr ⟨(j, k), (mem_live W.sz).2 ⟨b1, b2⟩, rfl⟩
  have hlen : (liveOf M owner).length = hs.size := by
    obtain ⟨ps, p1, p2⟩ := W.ps
    have a := nat_nodup_len _ ps nd fun x hx => by
      obtain ⟨⟨y, k⟩, hq, rfl⟩ := List.mem_map.mp hx
      obtain ⟨b1, b2⟩ := (mem_live W.sz).1 hq
      exact p2 y b1 (by rw [b2]; exact fun z => nomatch z)
    have b := nat_nodup_len (List.range hs.size) ((liveOf M owner).map (·.2)) List.nodup_range fun k hk => hall k (List.mem_range.mp hk)
    rw [List.length_map, p1] at a
    rw [List.length_map, List.length_range] at b
    omega
  refine ⟨_, _, hr, perm_range hs.size _ (by show ((liveOf M owner).map (·.2)).length = _; rw [List.length_map, hlen]) hall, ris, rfl, ?_, rfl, rfl, rfl⟩
  show ((liveOf M owner).map (·.1)).toArray.size = hs.size
  rw [List.size_toArray, List.length_map, hlen]
end L2

set_option Elab.async false
set_option linter.all false
set_option maxRecDepth 100000
set_option maxHeartbeats 3200000
set_option autoImplicit false
/-! RxS35: set(xs), xs a list of rows no two of which hash alike. -/
namespace L2
open PySem PySem.Spec PyProof.Rows
section
variable {P : Program} {w : World} {A : Around} {E : Value → Shared → Prop} {s : Shared}
/-! ### rows as keys -/
def keyP (p : Int × Int) : NestedKey := .tup [.num p.1, .num p.2]
def keyR (r : List (Int × Int)) : NestedKey := .tup (r.map keyP)
theorem keyR_hash (r : List (Int × Int)) : (keyR r).hash w = Rx.rowH r := by
  have e : ∀ r : List (Int × Int), NestedKey.hashes w (r.map keyP) = r.map Rx.prH := fun r => by
    induction r with
    | nil => rfl
    | cons p r ih =>
      show NestedKey.hash w (keyP p) :: NestedKey.hashes w (r.map keyP) = _
      rw [ih]; rfl
  show reduceHash (Builtin.Tuple.tupleHashOf (NestedKey.hashes w (r.map keyP))) = _
  rw [e]; rfl
theorem keyR_depth (r : List (Int × Int)) : (keyR r).depth ≤ 2 := by
  have e : ∀ r : List (Int × Int), NestedKey.depthAll (r.map keyP) ≤ 1 := fun r => by
    induction r with
    | nil => exact Nat.zero_le _
    | cons p r ih =>
      show max (NestedKey.depth (keyP p)) (NestedKey.depthAll (r.map keyP)) ≤ 1
      have : NestedKey.depth (keyP p) = 1 := rfl
      omega
  show NestedKey.depthAll (r.map keyP) + 1 ≤ 2
  have := e r
  omega
/-- hashed by value alone -/
def HashBy (P : Program) (w : World) (n : Nat) (s : Shared) (v : Value) : Prop := ∀ (A : Around) (E : Value → Shared → Prop) (Q : Bool → Shared → Prop), Q true s → wpAny (model P w) A (hashByValue n v) Q E s
theorem hashBy_num {n : Nat} {v : Value} {i : Int} (x : NestedIs s.heap (.num i) v) : HashBy P w n s v := fun A E Q h => by
  have hb : ∀ b, hashByValue n (.bool b) = pure true := fun b => by cases n <;> rfl
  cases x with
  | bool e => rw [hb]; exact wpAny_pure h
  | int i t => rw [hashBy_int]; exact wpAny_pure h
theorem hashBy_seq {n : Nat} {a : Addr} {o : Obj} {vs : Array Value} {m : Nat} (ho : s.heap.get? a = some o) (hc : o.cls = .type "tuple") (hd : o.data = .seq vs m) (hq : ∀ v ∈ vs.toList, HashBy P w n s v) : HashBy P w (n + 1) s (.ref a) := fun A E Q h => by
  have hT : s.TypeIs (.ref a) "tuple" := ⟨o, ho, hc⟩
  unfold hashByValue
  refine wpAny_bind (wpAny_specialOf hT F.slot_tuple_hash.lookup ?_)
  show wpAny _ _ (seqItems? (.ref a) >>= _) _ _ s
  refine wpAny_bind (wpAny_seqItems ho hd (wpAny_bind ?_))
  show wpAny _ _ (forIn vs _ _) _ _ s
  rw [← Array.forIn_toList]
  refine wpAny_forIn_list _ (fun rest r s' => r.1 = none ∧ s' = s ∧ ∀ v ∈ rest, HashBy P w n s v) _ ?_ ?_ _ _ ⟨rfl, rfl, hq⟩
  · rintro v rest r s' ⟨_, rfl, hall⟩
    refine wpAny_bind (hall v List.mem_cons_self _ _ _ ?_)
    simp only [Bool.not_true, Bool.false_eq_true, if_false]
    exact wpAny_pure ⟨rfl, rfl, fun u hu => hall u (List.mem_cons_of_mem _ hu)⟩
  · rintro ⟨r1, r2⟩ s' ⟨hr, rfl, _⟩
    simp only at hr
    subst hr
    exact wpAny_pure h
theorem hashBy_row {r : List (Int × Int)} {v : Value} (x : NestedIs s.heap (keyR r) v) : HashBy P w 8 s v := by
  have pairs : ∀ (r : List (Int × Int)) (vs : List Value), NestedAll s.heap (r.map keyP) vs → ∀ v ∈ vs, HashBy P w 7 s v := fun r => by
    induction r with
    | nil => intro vs h v hv; cases h; cases hv
    | cons p r ih =>
      intro vs h v hv
      cases h with
      | cons h1 h2 =>
        rcases List.mem_cons.mp hv with e | hv
        · subst e
          cases h1 with
          | tup g c d k =>
            refine hashBy_seq (n := 6) g c d fun u hu => ?_
            generalize Array.toList _ = l at k hu
            cases k with
            | cons k1 k2 =>
              cases k2 with
              | cons k2 k3 =>
                cases k3
                rcases List.mem_cons.mp hu with e | hu
                · rw [e]; exact hashBy_num k1
                · rw [List.mem_singleton.mp hu]; exact hashBy_num k2
        · exact ih _ h2 v hv
  cases x with
  | tup g c d k => exact hashBy_seq (n := 7) g c d (pairs r _ k)
/-! ### the set -/
def rowsN (L : List (Addr × List (Int × Int))) : List (Int × Value) := L.map fun p => (Rx.rowH p.2, Value.ref p.1)
structure SetN (w : World) (h : Heap) (a : Addr) (L : List (Addr × List (Int × Int))) (es : Array (Int × Value)) (ep : Nat) (t : SetTable) : Prop where
  ob : ∃ o, h.get? a = some o ∧ o.ExactSet ∧ o.data = .set es ep t
  rows : es.toList = rowsN L
  ris : Ris t.place.toList
  dm : t.dummies = #[]
  sz : t.place.size = L.length
  fl : Fl t.mask
  nd : (L.map fun p => Rx.rowH p.2).Nodup
  plain : t.plain = true
  led : w.params.followText "set-order" = true ∨ t.led = true
  room : L.length * 5 < t.mask * 3
variable {a : Addr} {L : List (Addr × List (Int × Int))} {es : Array (Int × Value)} {ep : Nat} {t : SetTable}
theorem rowsN_size (h : es.toList = rowsN L) : es.size = L.length := by
  have q := congrArg List.length h
  unfold rowsN at q
  rwa [Array.length_toList, List.length_map] at q
theorem fits_of {n : Nat} (h1 : t.place.size = n) (h2 : t.dummies = #[]) (h3 : n ≤ t.mask) : t.fits n = true := by
  unfold SetTable.fits SetTable.fill
  rw [h2, Bool.and_eq_true, beq_iff_eq, decide_eq_true_eq]
  exact ⟨h1, by show t.place.size + 0 ≤ t.mask; omega⟩
theorem SetN.fits {h : Heap} (R : SetN w h a L es ep t) : t.fits es.size = true := by
  have := R.room
  exact fits_of (by rw [R.sz, rowsN_size R.rows]) R.dm (by rw [rowsN_size R.rows]; omega)
theorem SetN.keep {h h' : Heap} (R : SetN w h a L es ep t) (k : ∀ o, h.get? a = some o → h'.get? a = some o) : SetN w h' a L es ep t := by
  obtain ⟨o, ho, r⟩ := R.ob
  exact ⟨⟨o, k o ho, r⟩, R.rows, R.ris, R.dm, R.sz, R.fl, R.nd, R.plain, R.led, R.room⟩
/-! ### the order of a table laid anew -/
theorem pick_map {α β : Type} (f : α → β) (l : List α) : ∀ o : List Nat, o.filterMap (fun i => (l.map f)[i]?) = (o.filterMap fun i => l[i]?).map f
  | [] => rfl
  | i :: o => by
    rw [List.filterMap_cons, List.filterMap_cons, List.getElem?_map, pick_map f l o]
    cases l[i]? <;> rfl
theorem pick_range {α : Type} (l : List α) : (List.range l.length).filterMap (fun i => l[i]?) = l := by
  have key : ∀ n, (List.range n).filterMap (fun i => l[i]?) = l.take n := fun n => by
    induction n with
    | zero => rfl
    | succ n ih =>
      rw [List.range_succ, List.filterMap_append, ih, List.take_succ]
      cases h : l[n]? <;> simp [h]
  rw [key, List.take_length]
theorem orderN (order : Array Nat) (hr : es.toList = rowsN L) (hp : order.toList.Perm (List.range L.length)) : ∃ L2, (order.filterMap (es[·]?)).toList = rowsN L2 ∧ L2.Perm L := by
  refine ⟨order.toList.filterMap fun i => L[i]?, ?_, ?_⟩
  · have e : (fun i => es[i]?) = fun i => (rowsN L)[i]? := funext fun i => by rw [← hr, Array.getElem?_toList]
    rw [Array.toList_filterMap, e]
    exact pick_map _ L _
  · have := hp.filterMap fun i => L[i]?
    rwa [pick_range] at this
theorem relayN {o : Obj} (ho : s.heap.get? a = some o) (hex : o.ExactSet) (hd : o.data = .set es ep t) (hrows : es.toList = rowsN L) (hsz : t.place.size = L.length) (hdm : t.dummies = #[]) (hfl : L.length ≤ t.mask)
    (nd : (L.map fun p => Rx.rowH p.2).Nodup) (pl : t.plain = true) (ld : w.params.followText "set-order" = true ∨ t.led = true) {wanted M : Nat}
    (hw : SetTable.sizeAbove wanted - 1 = M) (hM : Fl M) (hw2 : SetTable.sizeAbove wanted ≤ 512) (hn : L.length * 5 < M * 3) {Q : Unit → Shared → Prop}
    (hQ : ∀ h' L' es' ep' t', Heap.SameBut a s.heap h' → SetN w h' a L' es' ep' t' → L'.Perm L → Q () { s with heap := h' }) : wpAny (model P w) A (setRelay a wanted) Q E s := by
  have hsl := rowsN_size hrows
  obtain ⟨t', order, e, hp, q1, q2, q3, q4, q5, q6⟩ := relaidF t (hs := es.map (·.1)) (wanted := wanted) hw hM (by rw [Array.size_map, hsl]; omega)
  rw [Array.size_map, hsl] at hp q3
  obtain ⟨L2, r1, r2⟩ := orderN order hrows hp
  have hs2 : (order.filterMap (es[·]?)).size = es.size := by rw [rowsN_size r1, r2.length_eq, hsl]
  rw [setRelay_eq]
  refine wpAny_bind (wpAny_setState_of ho hd (fits_of (by rw [hsz, hsl]) hdm (by omega)) ?_)
  dsimp only
  refine wp_if_neg (by rw [sizeLine_eq]; omega) ?_
  try refine wpAny_bind (wpAny_pure ?_)
  rw [e]
  dsimp only
  refine wpAny_bind ?_
  refine wp_if_neg (by rw [hs2]; simp) ?_
  try refine wpAny_bind (wpAny_pure ?_)
  refine wpAny_pure ?_
  dsimp only
  refine wpAny_storeSet_of ho hd ?_ (by rw [hs2, hsl, sizeLine_eq]; rcases hM with z | z | z | z <;> omega)
  have sb : Heap.SameBut a s.heap (s.heap.update a (Obj.putSet (order.filterMap (es[·]?)) t')) := Heap.SameBut.update ..
  refine hQ _ L2 (order.filterMap (es[·]?)) (ep + 1) t' sb ⟨⟨_, store_at ho hd, ⟨hex.1, hex.2.1, hex.2.2⟩, rfl⟩, r1, q1, q2, by rw [q3, r2.length_eq], by rw [q4]; exact hM, (r2.map _).nodup_iff.mpr nd, by rw [q6]; exact pl, by rw [q5]; exact ld, by rw [r2.length_eq, q4]; exact hn⟩ r2
theorem size_308 : SetTable.sizeAbove (SetTable.grown 77) = 512 := by decide +kernel
theorem addN (R : SetN w s.heap a L es ep t) {x : Addr} {k : List (Int × Int)} (hx : NestedIs s.heap (keyR k) (.ref x)) (hne : Rx.rowH k ∉ L.map fun p => Rx.rowH p.2) (hfew : L.length + 1 ≤ 300) {Q : Bool → Shared → Prop}
    (hQ : ∀ b h' L' es' ep' t', Heap.SameBut a s.heap h' → SetN w h' a L' es' ep' t' → L'.Perm ((x, k) :: L) → Q b { s with heap := h' }) :
    wpAny (model P w) A (setAddHashed a (.ref x) (Rx.rowH k)) Q E s := by
  obtain ⟨o, ho, hex, hd⟩ := R.ob
  have hsl := rowsN_size R.rows
  have hroom := R.room
  obtain ⟨j, hj, pe⟩ := probeF (t := t) (h := Rx.rowH k) R.ris R.dm R.fl (by rw [R.sz]; omega) (hashAt := fun i => (es[i]?.map (·.1)).getD 0) fun i hi e => by
    rw [R.sz] at hi
    have q : es[i]? = some (Rx.rowH (L[i]).2, Value.ref (L[i]).1) := by
      rw [← Array.getElem?_toList, R.rows]
      unfold rowsN
      rw [List.getElem?_map, List.getElem?_eq_getElem hi]; rfl
    simp only [q, Option.map_some, Option.getD_some] at e
    exact hne (List.mem_map.mpr ⟨L[i], List.getElem_mem hi, e⟩)
  have gw : ¬ t.gaveWay = true := by unfold SetTable.gaveWay; rw [fl_odd R.fl]; decide
  unfold setAddHashed
  refine wpAny_holding ?_
  rw [show (100000 : Nat) = 99999 + 1 from rfl, setAddHashedIn_succ]
  refine wpAny_bind (wpAny_setState_of ho hd R.fits ?_)
  dsimp only
  refine wp_if_neg (by simp [byScan, Value.scannable]) ?_
  try refine wpAny_bind (wpAny_pure ?_)
  have sr : ∀ {Q' : SetFound → Shared → Prop}, Q' (.free j false) s → wpAny (model P w) A (setSearch a (.ref x) (Rx.rowH k) true) Q' E s := fun {Q'} hq => by
    unfold setSearch
    rw [show (100000 : Nat) = 99999 + 1 from rfl, setSearchFrom_succ]
    refine wpAny_bind (wpAny_setState_of ho hd R.fits ?_)
    dsimp only
    refine wp_if_neg gw ?_
    try refine wpAny_bind (wpAny_pure ?_)
    rw [show (none : Option SetTable.Probe).getD (t.probeStart (Rx.rowH k)) = t.probeStart (Rx.rowH k) from rfl, pe]
    exact wpAny_pure hq
  refine wpAny_bind (sr ?_)
  dsimp only
  refine wpAny_bind (wpAny_setState_of ho hd R.fits ?_)
  dsimp only
  have c1 := (below_cut R.ris j).1
  have hnp : t.place[SetTable.below t.place j]? ≠ some j := fun e => hj (List.mem_of_getElem? (by rw [Array.getElem?_toList]; exact e))
  have t1ris : Ris (t.put j).1.place.toList := ris_insert R.ris hnp
  have t1dm : (t.put j).1.dummies = #[] := put_dm R.dm j
  have t1sz : (t.put j).1.place.size = L.length + 1 := by
    rw [← Array.length_toList, put_place, len_ins _ (by rw [Array.length_toList]; exact c1), Array.length_toList, R.sz]
  have t1pl : (t.put j).1.plain = true := R.plain
  have t1m : (t.put j).1.mask = t.mask := rfl
  have t1l : (t.put j).1.led = t.led := rfl
  have t1p : (t.put j).2 = SetTable.below t.place j := rfl
  generalize hpt : t.put j = pt at t1ris t1dm t1sz t1pl t1m t1l t1p ⊢
  obtain ⟨t1, p⟩ := pt
  dsimp only at t1ris t1dm t1sz t1pl t1m t1l t1p ⊢
  subst t1p
  first
    | (refine wpAny_bind ?_; refine wp_if_pos t1pl ?_; refine hashBy_row hx _ _ _ ?_)
    | refine wp_if_pos t1pl (wpAny_bind (hashBy_row hx _ _ _ ?_))
  simp only [if_true]
  have hin : (SetTable.insertAt es (SetTable.below t.place j) (Rx.rowH k, Value.ref x)).toList = rowsN (L.take (SetTable.below t.place j) ++ (x, k) :: L.drop (SetTable.below t.place j)) := by
    rw [SetTable.toList_insertAt, R.rows]
    unfold rowsN
    rw [List.map_append, List.map_cons, List.map_take, List.map_drop]
  have pm := put_perm L (SetTable.below t.place j) (x, k)
  generalize L.take (SetTable.below t.place j) ++ (x, k) :: L.drop (SetTable.below t.place j) = L1 at hin pm
  generalize SetTable.insertAt es (SetTable.below t.place j) (Rx.rowH k, Value.ref x) = es1 at hin ⊢
  have hlen : L1.length = L.length + 1 := pm.length_eq
  have hes : es1.size = L.length + 1 := by rw [rowsN_size hin, hlen]
  have nd1 : (L1.map fun p => Rx.rowH p.2).Nodup := (pm.map _).nodup_iff.mpr (by rw [List.map_cons]; exact List.nodup_cons.mpr ⟨hne, R.nd⟩)
  refine wpAny_bind (wpAny_storeSet_of ho hd ?_ (by rw [hes, sizeLine_eq]; omega))
  have sb : Heap.SameBut a s.heap (s.heap.update a (Obj.putSet es1 t1)) := Heap.SameBut.update ..
  have ho1 := store_at (es' := es1) (t' := t1) ho hd
  generalize s.heap.update a (Obj.putSet es1 t1) = h1 at sb ho1 ⊢
  have ld1 : w.params.followText "set-order" = true ∨ t1.led = true := by rw [t1l]; exact R.led
  have fl : t1.fill = L.length + 1 := by unfold SetTable.fill; rw [t1dm, t1sz]; rfl
  have tf : t1.tooFull = decide ((L.length + 1) * 5 ≥ t1.mask * 3) := by unfold SetTable.tooFull; rw [fl]
  by_cases hf : t1.tooFull = true
  · first
      | (refine wpAny_bind ?_; refine wp_if_pos (by simp [hf]) ?_)
      | (refine wp_if_pos (by simp [hf]) ?_; refine wpAny_bind ?_)
    rw [tf, decide_eq_true_eq, t1m] at hf
    rw [hsl]
    have cs : (t.mask = 7 ∧ L.length = 4) ∨ (t.mask = 31 ∧ L.length = 18) ∨ (t.mask = 127 ∧ L.length = 76) := by
      rcases R.fl with e | e | e | e <;> rw [e] at hf hroom <;> omega
    have go : ∀ M, SetTable.sizeAbove (SetTable.grown (L.length + 1)) = M + 1 → Fl M → M ≤ 511 → (L.length + 1) * 5 < M * 3 →
        wpAny (model P w) A (setRelay a (SetTable.grown (L.length + 1))) (fun _ s' => wpAny (model P w) A (pure true) Q E s') E { s with heap := h1 } := fun M g1 g2 g3 g4 => by
      refine relayN (s := { s with heap := h1 }) ho1 ⟨hex.1, hex.2.1, hex.2.2⟩ rfl hin (by rw [t1sz, hlen]) t1dm (by rw [hlen, t1m]; rcases cs with ⟨e, e2⟩ | ⟨e, e2⟩ | ⟨e, e2⟩ <;> omega) nd1 t1pl ld1 (by rw [g1]; rfl) g2 (by rw [g1]; omega) (by rw [hlen]; exact g4) ?_
      intro h2 L2 es2 ep2 t2 sb2 R2 pm2
      exact wpAny_pure (hQ true h2 L2 es2 ep2 t2 (sb.trans sb2) R2 (pm2.trans pm))
    rcases cs with ⟨_, e2⟩ | ⟨_, e2⟩ | ⟨_, e2⟩
    · exact go 31 (by rw [e2, size_20]) (.inr (.inl rfl)) (by omega) (by omega)
    · exact go 127 (by rw [e2, size_76]) (.inr (.inr (.inl rfl))) (by omega) (by omega)
    · exact go 511 (by rw [e2, size_308]) (.inr (.inr (.inr rfl))) (by omega) (by omega)
  · first
      | refine wp_if_neg (by simp [hf]) ?_
      | (refine wpAny_bind ?_; refine wp_if_neg (by simp [hf]) ?_; refine wpAny_pure ?_)
    rw [tf, decide_eq_true_eq] at hf
    exact wpAny_pure (hQ true h1 L1 es1 (ep + 1) t1 sb ⟨⟨_, ho1, ⟨hex.1, hex.2.1, hex.2.2⟩, rfl⟩, hin, t1ris, t1dm, by rw [t1sz, hlen], by rw [t1m]; exact R.fl, nd1, t1pl, ld1, by rw [hlen]; omega⟩ pm)
end
end L2

set_option Elab.async false
set_option linter.all false
set_option maxRecDepth 100000
set_option maxHeartbeats 3200000
set_option autoImplicit false
/-! RxS36: set(xs) and sorted of it, xs a list of rows no two of which hash alike. -/
namespace L2
open PySem PySem.Spec PyProof.Rows
section
variable {P : Program} {w : World} {A : Around} {E : Value → Shared → Prop} {s : Shared}
theorem nested_keep {h h' : Heap} (hk : ∀ b o, h.get? b = some o → h'.get? b = some o) {k : NestedKey} {v : Value} (x : NestedIs h k v) : NestedIs h' k v := NestedIs.at (fun b o _ _ e _ => hk b o e) k v x
theorem setN_fresh {h : Heap} {a : Addr} (ho : h.get? a = some (Rx.emptySet w)) : SetN w h a [] #[] 0 (.fresh 0 0 (!w.params.followText "set-order")) where
  ob := ⟨_, ho, ⟨rfl, rfl, rfl⟩, rfl⟩
  rows := rfl
  ris := List.Pairwise.nil
  dm := rfl
  sz := rfl
  fl := .inl rfl
  nd := List.nodup_nil
  plain := rfl
  led := by
    show _ ∨ (!w.params.followText "set-order") = true
    cases w.params.followText "set-order"
    · exact .inr rfl
    · exact .inl rfl
  room := by show 0 * 5 < 7 * 3; decide
theorem set_update_rows {I : Addr} {fp wr : List Addr} {G : Array GenState → Array GenState → Prop} {n : Nat} {Pv : Nat → Value → Prop} {St : Nat → Shared → Prop} {R : Result → Shared → Prop}
    (W : WalksS P w A.in1 I fp wr G n Pv St) (S : Addr) (hSf : S ∉ fp) (ks : List (Addr × List (Int × Int))) (hn : n = ks.length) (hfew : ks.length ≤ 300) (ndh : (ks.map fun p => Rx.rowH p.2).Nodup) (hval : ∀ i v, Pv i v → ∃ p, ks[i]? = some p ∧ v = .ref p.1)
    (h0 : Heap) (hk : ∀ p ∈ ks, NestedIs h0 (keyR p.2) (.ref p.1)) (hS0 : h0.get? S = none) (hw0 : ∀ b ∈ wr, h0.get? b = none) (hu : A.in1.units + 2 < cLine) :
    ∀ (k i : Nat) (s : Shared), n - i = k → i ≤ n → St i s → (∀ b o, h0.get? b = some o → s.heap.get? b = some o) → (∃ L es ep t, SetN w s.heap S L es ep t ∧ L.Perm (ks.take i)) →
      (∀ s' L es ep t, Moved (S :: wr) G s s' → SetN w s'.heap S L es ep t → L.Perm ks → (∀ b o, h0.get? b = some o → s'.heap.get? b = some o) → R (.ok (.ret .none)) s') →
      codeAny (model P w) A (.builtin "set.update.loop" ⟨[.ref S, .ref I], []⟩) R s := by
  have hSw : S ∉ wr := fun h => hSf (W.sub _ h)
  have up : ∀ b ∈ wr, b ∈ S :: wr := fun b hb => List.mem_cons_of_mem _ hb
  have keepM : ∀ {s s' : Shared}, Moved wr G s s' → (∀ b o, h0.get? b = some o → s.heap.get? b = some o) → ∀ b o, h0.get? b = some o → s'.heap.get? b = some o := fun m kp b o e =>
    m.heap b o (fun z => by rw [hw0 b z] at e; cases e) (kp b o e)
  intro k
  induction k with
  | zero =>
    intro i s hk' hi st kp ⟨L, es, ep, t, hS, g⟩ hR
    have : i = n := by omega
    subst this
    refine codeAny_builtin F.entry_set_update_loop ?_
    rw [Around.under_plainId F.plain_set_update_loop _]
    show wpAny _ A.in1 (pyNext (.ref I) >>= _) _ _ s
    refine wpAny_bind (W.done s _ _ st fun s' m => ?_)
    show wpAny _ A.in1 (ret Value.none) _ _ s'
    rw [hn, List.take_length] at g
    exact wpAny_pure (hR s' L es ep t (m.mono up) (hS.keep fun o e => m.heap S o hSw e) g (keepM m kp))
  | succ k ih =>
    intro i s hk' hi st kp ⟨L, es, ep, t, hS, g⟩ hR
    have lt : i < n := by omega
    refine codeAny_builtin F.entry_set_update_loop ?_
    rw [Around.under_plainId F.plain_set_update_loop _]
    show wpAny _ A.in1 (pyNext (.ref I) >>= _) _ _ s
    refine wpAny_bind (W.item i s _ _ lt st fun v s' hP st' m => ?_)
    obtain ⟨p, hp, rfl⟩ := hval i v hP
    have kp' := keepM m kp
    have hS' : SetN w s'.heap S L es ep t := hS.keep fun o e => m.heap S o hSw e
    have hx : NestedIs s'.heap (keyR p.2) (.ref p.1) := nested_keep kp' (hk p (List.mem_of_getElem? hp))
    have tk := take_next hp
    have hne : Rx.rowH p.2 ∉ L.map fun p => Rx.rowH p.2 := fun z => by
      have q : (((ks.take (i + 1)).map fun p => Rx.rowH p.2)).Nodup := by
        rw [← List.take_append_drop (i + 1) ks, List.map_append] at ndh
        exact (List.nodup_append.mp ndh).1
      rw [tk, List.map_append] at q
      exact (List.nodup_append.mp q).2.2 _ ((g.map _).mem_iff.mp z) _ List.mem_cons_self rfl
    have hLl : L.length ≤ i := by rw [g.length_eq, List.length_take]; omega
    show wpAny _ A.in1 (holding [Value.ref p.1] (setAdd S (.ref p.1)) >>= _) _ _ s'
    refine wpAny_bind (wpAny_holding ?_)
    unfold setAdd
    refine wpAny_holding ?_
    have hdp := keyR_depth p.2
    refine wpAny_bind (pyHash_key (keyR p.2) _ A.in1 s' _ hx (by omega) ?_)
    rw [keyR_hash]
    refine addN (s := { s' with toks := s'.toks + (keyR p.2).draws }) hS' hx hne (by omega) fun b h' L' es' ep' t' sb hS2 pm => ?_
    have g' : L'.Perm (ks.take (i + 1)) := by
      rw [tk]
      exact pm.trans ((g.cons p).trans (List.perm_append_singleton p _).symm)
    have kp2 : ∀ b o, h0.get? b = some o → h'.get? b = some o := fun b o e => (sb.2 b (fun z => by rw [z, hS0] at e; cases e)).trans (kp' b o e)
    refine wpAny_pure ⟨plainId_quiet F.plain_set_update_loop _, ih (i + 1) _ (by omega) lt (W.frame _ s' _ _ st' (Nat.le_add_right _ _) fun b hb o e => ?_) kp2 ⟨L', es', ep', t', hS2, g'⟩ fun s'' L2 es2 ep2 t2 m2 hS'' g'' kp'' => ?_⟩
    · rw [sb.2 b (fun z : b = S => hSf (by rw [← z]; exact hb))]; exact e
    · refine hR s'' L2 es2 ep2 t2 (Moved.trans W.gtrans ((m.mono up).then_heap (Nat.le_add_right _ _) fun b o hb e => ?_) m2) hS'' g'' kp''
      rw [sb.2 b (fun z : b = S => hb (by rw [z]; exact List.mem_cons_self))]; exact e
/-- what set(xs) leaves -/
def RowsLeft (w : World) (s : Shared) (ks : List (Addr × List (Int × Int))) (h' : Heap) : Prop := (∃ L es ep t, SetN w h' s.heap.objs.size L es ep t ∧ L.Perm ks) ∧ ∀ b o, s.heap.get? b = some o → h'.get? b = some o
theorem set_rows_loop {l : Addr} {xs : Array Value} {ks : List (Addr × List (Int × Int))} {Q : Result → Shared → Prop} (hh : A.handled = none) (hl : s.heap.IsList l xs) (hi : xs.toList = ks.map fun p => Value.ref p.1)
    (hk : ∀ p ∈ ks, NestedIs s.heap (keyR p.2) (.ref p.1)) (hfew : ks.length ≤ 300) (ndh : (ks.map fun p => Rx.rowH p.2).Nodup) (hu : A.in1.units + 2 < cLine)
    (hq : ∀ h' tk, RowsLeft w s ks h' → Q (.ok (.ret .none)) { s with heap := h', toks := tk }) :
    codeAny (model P w) A (.builtin "set.update.loop" ⟨[.ref s.heap.objs.size, .ref (s.heap.push (Rx.emptySet w)).objs.size], []⟩) Q
      { s with heap := (s.heap.push (Rx.emptySet w)).push { cls := .type "list_iterator", data := .fields #[.ref l, .int 0 0] } } := by
  have sz : xs.size = ks.length := by rw [← Array.length_toList, hi, List.length_map]
  obtain ⟨ol, hol, _⟩ := id hl
  have below : l < s.heap.objs.size := Heap.lt_size hol
  have next : (s.heap.push (Rx.emptySet w)).objs.size = s.heap.objs.size + 1 := Heap.size_push _ _
  have apart : l ≠ (s.heap.push (Rx.emptySet w)).objs.size := by rw [next]; exact Nat.ne_of_lt (Nat.lt_succ_of_lt below)
  have out : s.heap.objs.size ∉ [(s.heap.push (Rx.emptySet w)).objs.size, l] := by
    rw [next]
    intro m
    rcases List.mem_cons.mp m with z | z
    · exact absurd z (Nat.ne_of_lt (Nat.lt_succ_self _))
    · exact absurd (List.mem_singleton.mp z) (Nat.ne_of_gt below)
  have none_of : ∀ b, s.heap.objs.size ≤ b → s.heap.get? b = none := fun b hb => by
    cases q : s.heap.get? b with
    | none => rfl
    | some o => exact absurd (Nat.lt_of_lt_of_le (Heap.lt_size q) hb) (Nat.lt_irrefl _)
  have vals : ∀ (i : Nat) (v : Value), xs[i]? = some v → ∃ p, ks[i]? = some p ∧ v = .ref p.1 := fun i v hv => by
    rw [← Array.getElem?_toList, hi, List.getElem?_map, Option.map_eq_some_iff] at hv
    obtain ⟨p, e1, e2⟩ := hv
    exact ⟨p, e1, e2.symm⟩
  have there : (s.heap.push (Rx.emptySet w)).get? s.heap.objs.size = some (Rx.emptySet w) := Heap.get?_push_size _ rfl
  refine set_update_rows ((Walks.list (show A.in1.handled = none by simp [hh]) _ l apart xs).toS) _ out ks sz hfew ndh vals s.heap hk (none_of _ (Nat.le_refl _)) (fun b hb => none_of b (by
      rw [List.mem_singleton.mp hb, next]
      exact Nat.le_succ _)) hu (xs.size - 0) 0 _ rfl (Nat.zero_le _) ⟨⟨_, Heap.get?_push_size _ rfl, rfl, rfl⟩, (hl.push _).push _⟩ (fun b o e => Heap.get?_push_of_some _ (Heap.get?_push_of_some _ e))
    ⟨[], #[], 0, _, setN_fresh (Heap.get?_push_of_some _ there), List.Perm.nil⟩ fun s' L es ep t m R g kp => ?_
  obtain ⟨h', g', d', tk', os'⟩ := s'
  have e1 : g' = s.gens := m.gens
  have e2 : d' = s.drawn := m.drawn
  have e3 : os' = s.os := m.os
  subst e1 e2 e3
  exact hq h' tk' ⟨⟨L, es, ep, t, R, g⟩, kp⟩
theorem set_rows {l : Addr} {xs : Array Value} {ks : List (Addr × List (Int × Int))} {Q : Value → Shared → Prop} (hh : A.handled = none) (hl : s.heap.IsList l xs) (hi : xs.toList = ks.map fun p => Value.ref p.1)
    (hk : ∀ p ∈ ks, NestedIs s.heap (keyR p.2) (.ref p.1)) (hfew : ks.length ≤ 300) (ndh : (ks.map fun p => Rx.rowH p.2).Nodup) (hu : A.units + 8 < cLine)
    (hq : ∀ h' tk, RowsLeft w s ks h' → Q (.ref s.heap.objs.size) { s with heap := h', toks := tk }) : wpAny (model P w) A (call (.type "set") [.ref l]) Q E s := by
  obtain ⟨c0, tl, hmro⟩ := F.called_set.mro
  have f1 := F.called_set.made
  have f2 := F.called_set.sub
  have f3 := F.called_set.notType
  have f4 := F.called_set.canCreate
  have f5 := F.typeCall_set_1 (.ref l)
  refine wpAny_call (codeAny_of_tree (wpAny_pure ⟨Code.quiet_builtin _ (by decide +kernel), codeAny_builtin F.entry_type_call ?_⟩))
  rw [Around.under_plain (weight_type_call_type "set" [.ref l] []) rfl]
  repeat (any_goals (first | assumption | wp_step))
  refine codeAny_mono (code_set_led1 (.ref l) (E := E) (Q₁ := fun v s1 => v = .ref s.heap.objs.size ∧ s1 = { s with heap := s.heap.push (Rx.emptySet w) }) ⟨rfl, rfl⟩) fun r s1 hr => ?_
  rcases r with e | fl
  · exact hr
  cases fl with
  | ret v =>
    obtain ⟨rfl, rfl⟩ := hr
    have there : (s.heap.push (Rx.emptySet w)).get? s.heap.objs.size = some (Rx.emptySet w) := Heap.get?_push_size _ rfl
    have ty : Shared.TypeIs { s with heap := s.heap.push (Rx.emptySet w) } (.ref s.heap.objs.size) "set" := ⟨_, there, rfl⟩
    have f6 := F.called_set.init.lookup
    have f7 := F.called_set.init.bind (.ref s.heap.objs.size)
    repeat (any_goals (first | assumption | wp_step))
    refine codeAny_mono (codeAny_call_builtin (R := wants (fun r s2 => r = .none ∧ ∃ h' tk, s2 = { s with heap := h', toks := tk } ∧ RowsLeft w s ks h') E) F.called_set.init.plain F.entry_set_init (check_set_init_1 ty ?_)) fun r2 s2 h2 => ?_
    · obtain ⟨⟨oc, od, dt, osl⟩, hol, hc, nl, hd⟩ := id hl
      simp only at hc hd
      subst hc hd
      have hol' : (s.heap.push (Rx.emptySet w)).get? l = some { cls := .type "list", dict := od, data := .seq xs nl, slots := osl } := Heap.get?_push_of_some _ hol
      have f8 := F.sub_list_set
      have f9 := F.sub_list_frozenset
      have f10 : (Value.type "list" == Value.type "dict") = false := by decide
      have hl1 : (s.heap.push (Rx.emptySet w)).IsList l xs := ⟨_, hol', rfl, nl, rfl⟩
      unfold Builtin.«set.__init__» noKeywords Builtin.Frozenset.updateFrom
      generalize hPI : pyIter = PI
      wp_walk
      subst hPI
      refine wpAny_pyIter_list hl1 (wpAny_bind (wpAny_runValue (set_rows_loop (by simp [hh]) hl hi hk hfew ndh ?_ fun h' tk z => ?_)))
      · simp only [Around.in1_units]; omega
      show wpAny _ _ _ _ _ _
      refine wpAny_pure ?_
      show wpAny _ _ (ret Value.none) _ _ _
      exact wpAny_pure ⟨rfl, h', tk, rfl, z⟩
    · rcases r2 with e | fl2
      · exact h2
      cases fl2 with
      | ret r =>
        obtain ⟨rfl, h', tk, rfl, z⟩ := h2
        repeat (any_goals (first | assumption | wp_step))
        exact hq _ _ z
      | _ => exact h2.elim
  | _ => exact hr.elim
end
def SetNO (w : World) (a : Addr) (L : List (Addr × List (Int × Int))) : HO := .ext fun h => ∃ es ep t, SetN w h a L es ep t
theorem setNO_new {P : Program} {w : World} {H : Hp} {h : Heap} {a : Addr} {L : List (Addr × List (Int × Int))} {es : Array (Int × Value)} {ep : Nat} {t : SetTable} (R : SetN w h a L es ep t) : ObjOk P w H h a (SetNO w a L) := by
  obtain ⟨o, ho, r⟩ := R.ob
  refine ⟨⟨es, ep, t, R⟩, ⟨o, ho⟩, fun h1 h2 p k => ?_⟩
  obtain ⟨es', ep', t', R'⟩ := p
  exact ⟨es', ep', t', R'.keep k⟩
end L2
namespace Rx
open PySem L2 PySem.Spec
open PyProof.Rows (seqObj)
section
variable {X : Cx}
theorem nested_rows {h : Heap} {v : Value} {r : List (Int × Int)} {as : List Addr} (x : Reads h v (dRow r) as) : NestedIs h (keyR r) v := by
  have all : ∀ (r : List (Int × Int)) (vs : List Value) (as : List Addr), ReadsAll h vs (r.map dPr) as → NestedAll h (r.map keyP) vs := fun r => by
    induction r with
    | nil => intro vs as x; cases x; exact .nil
    | cons p r ih =>
      intro vs as x
      cases x with
      | cons x1 x2 =>
        refine .cons ?_ (ih _ _ x2)
        cases x1 with
        | tuple g c d k =>
          refine .tup g c d ?_
          generalize Array.toList _ = l at k
          cases k with
          | cons k1 k2 =>
            cases k2 with
            | cons k2 k3 =>
              cases k3
              cases k1
              cases k2
              exact .cons (.int _ _) (.cons (.int _ _) .nil)
  cases x with
  | tuple g c d k => exact .tup g c d (all r _ _ k)
def refsN (ks : List (Addr × List (Int × Int))) : List V := ks.map fun p => V.ref p.1
theorem refsN_vals : ∀ {ks : List (Addr × List (Int × Int))} {us : List Value}, Vals (refsN ks) us → us = ks.map fun p => Value.ref p.1
  | [], _, .nil => rfl
  | p :: ks, _, .cons r t => by
    cases r
    rw [refsN_vals t]; rfl
theorem vals_refsN : ∀ (ks : List (Addr × List (Int × Int))), Vals (refsN ks) (ks.map fun p => Value.ref p.1)
  | [] => .nil
  | p :: ks => .cons rfl (vals_refsN ks)
theorem rp_rows {H : Hp} : ∀ (ks : List (Addr × List (Int × Int))), (∀ p ∈ ks, Rp H (.ref p.1) (dRow p.2)) → RpAll H (refsN ks) (ks.map fun p => dRow p.2)
  | [], _ => .nil
  | p :: ks, h => .cons (h p List.mem_cons_self) (rp_rows ks fun q hq => h q (List.mem_cons_of_mem _ hq))
/-- set(xs) -/
def rSetN (w : World) : List V → Hp → VK → Prop := fun xs H Q => ∃ (l : Addr) (ks : List (Addr × List (Int × Int))), xs = [V.ref l] ∧ H l = some (.lst (refsN ks)) ∧ (∀ p ∈ ks, Rp H (.ref p.1) (dRow p.2)) ∧ ks.length ≤ 300 ∧ (ks.map fun p => rowH p.2).Nodup ∧
  ∀ a L, H a = none → L.Perm ks → Q (.ref a) (upd H a (SetNO w a L))
theorem cr_setN (hc : X.calm = true) (hu : X.A.units + 64 < cLine) : CallR X (.type "set") (rSetN X.w) := by
  intro pins s σ H xs us Q I r h
  obtain ⟨l, ks, rfl, hl, hk, hf, nd, q⟩ := h
  rw [Vals.ref1 r]
  obtain ⟨its, rv, pl, hz⟩ := I.list (SqL.of hl)
  have hn : H s.heap.objs.size = none := I.hok.fresh (Nat.le_refl _)
  refine set_rows (P := X.prog) (w := X.w) (ks := ks) (I.ok.hd hc) pl.isList (by simpa using refsN_vals rv) (fun p hp => ?_) hf nd (by omega) fun h' tk ⟨⟨L, es, ep, t, R, g⟩, k⟩ => ?_
  · obtain ⟨as, rd⟩ := Dp.reads I _ _ _ (hk p hp).dp (show RelV (.ref p.1) (.ref p.1) from rfl)
    exact nested_rows rd
  · exact ⟨.ref s.heap.objs.size, _, I.laid (t' := tk) k (Nat.le_refl _) (setNO_new R), rfl, q _ L hn g⟩
theorem perm_of_map {α β : Type} (f : α → β) : ∀ {vs ms : List β}, vs.Perm ms → ∀ L : List α, ms = L.map f → ∃ L1 : List α, L1.Perm L ∧ vs = L1.map f := by
  intro vs ms p
  induction p with
  | nil => intro L e; exact ⟨L, .refl _, e⟩
  | cons x p ih =>
    intro L e
    cases L with
    | nil => cases e
    | cons y L =>
      injection e with e1 e2
      obtain ⟨L1, p1, e3⟩ := ih L e2
      exact ⟨y :: L1, p1.cons y, by rw [List.map_cons, e1, e3]⟩
  | swap x y l =>
    intro L e
    match L, e with
    | [], e => cases e
    | [_], e => cases e
    | a :: b :: L, e =>
      injection e with e1 e2
      injection e2 with e2 e3
      exact ⟨b :: a :: L, .swap _ _ _, by rw [List.map_cons, List.map_cons, e1, e2, e3]⟩
  | trans p1 p2 ih1 ih2 =>
    intro L e
    obtain ⟨L2, q2, e2⟩ := ih2 L e
    obtain ⟨L1, q1, e1⟩ := ih1 L2 e2
    exact ⟨L1, q1.trans q2, e1⟩
theorem srtOk_perm {a b : List D} (p : a.Perm b) (h : srtOk b = true) : srtOk a = true := by
  unfold srtOk at h ⊢
  simp only [Bool.and_eq_true, Bool.or_eq_true, decide_eq_true_eq, List.all_eq_true] at h ⊢
  obtain ⟨⟨⟨h1, h2⟩, h3⟩, h4⟩ := h
  refine ⟨⟨⟨fun x hx y hy => h1 x (p.mem_iff.mp hx) y (p.mem_iff.mp hy), ?_⟩, fun x hx => h3 x (p.mem_iff.mp hx)⟩, by rw [p.length_eq]; exact h4⟩
  rcases h2 with h2 | h2
  · exact .inl fun x hx => h2 x (p.mem_iff.mp hx)
  · exact .inr fun x hx => h2 x (p.mem_iff.mp hx)
/-- sorted(set) -/
def rSortN (w : World) : List V → Hp → VK → Prop := fun vs H Q => ∃ (a : Addr) (L : List (Addr × List (Int × Int))), vs = [V.ref a] ∧ H a = some (SetNO w a L) ∧ (∀ p ∈ L, Rp H (.ref p.1) (dRow p.2)) ∧ srtOk (L.map fun p => dRow p.2) = true ∧ L.length ≤ 300 ∧
  ∀ (L' : List (Addr × List (Int × Int))) (p : Addr), L'.Perm L → L'.Pairwise (fun a b => led (dRow a.2) (dRow b.2) = true) → H p = none → Q (.ref p) (upd H p (.lst (refsN L')))
theorem each_maps {α : Type} {R : Value → α → Prop} {f : α → Value} : ∀ (l : List α), (∀ x ∈ l, R (f x) x) → PySem.W.EachIs R (l.map f) l
  | [], _ => .nil
  | x :: l, h => .cons (h x List.mem_cons_self) (each_maps l fun y hy => h y (List.mem_cons_of_mem _ hy))
theorem maps_each {α : Type} {f : α → Value} : ∀ {vs : List Value} {l : List α}, PySem.W.EachIs (fun v x => v = f x) vs l → vs = l.map f
  | _, _, .nil => rfl
  | _, _, .cons h t => by rw [h, maps_each t]; rfl
end
end Rx

set_option Elab.async false
set_option linter.all false
set_option maxRecDepth 100000
set_option maxHeartbeats 3200000
set_option autoImplicit false
/-! RxS37: sorted(set(xs)), xs an ascending list of rows. -/
namespace Rx
open PySem L2 PySem.Spec
open PyProof.Rows (seqObj)
open PySem.Calls PyProof.Rows PySem.W
section
variable {X : Cx}
theorem cr_sortN (hc : X.calm = true) (hu : X.A.units + 64 < cLine) : CallR X (.builtin "sorted") (rSortN X.w) := by
  intro pins s σ H vs us Q I r h
  obtain ⟨a, L, rfl, ha, hk, ok, hL, q⟩ := h
  obtain ⟨es, ep, t, R⟩ := (I.hok a _ ha).1
  rw [Vals.ref1 r]
  obtain ⟨o, ho, hex, hd⟩ := R.ob
  refine Calls.call_function_entry kind_sorted plain_sorted entry_sorted (args_sorted1 _) ?_
  unfold Builtin.«sorted»
  refine wpAny_bind (m := checkCount "sorted" 1 1 _) (wpAny_pure ?_)
  refine wpAny_bind (collect_set (A := X.A.in1) (I.ok.hd hc) ⟨o, ho, hex.1, hd⟩ R.fits (by unfold scanBound; rw [rowsN_size R.rows]; omega) R.ris R.led fun s1 vs k1 hz g1 o1 pm => ?_)
  have hes : es.toList.map (·.2) = L.map fun q => Value.ref q.1 := by
    rw [R.rows]
    unfold rowsN
    rw [List.map_map]; rfl
  rw [hes] at pm
  obtain ⟨L1, p1, ev⟩ := perm_of_map _ pm L rfl
  have hLv : vs.length ≤ sizeLine := by rw [ev, List.length_map, p1.length_eq, sizeLine_eq]; omega
  refine wpAny_bind (wpAny_newList ?_ hLv)
  have hoL : (s1.heap.push (seqObj "list" vs.toArray 0)).get? s1.heap.objs.size = some (seqObj "list" vs.toArray 0) := Heap.get?_push_size _ rfl
  obtain ⟨al, so, dp, hzl⟩ := srtOk_of (srtOk_perm (p1.map fun p => dRow p.2) ok)
  have er : EachIs (fun v (b : Addr × List (Int × Int)) => ∃ as, Reads (sortingHeap (s1.heap.push (seqObj "list" vs.toArray 0)) s1.heap.objs.size vs) v (dRow b.2) as) vs L1 := by
    rw [ev]
    refine each_maps L1 fun p hp => ?_
    obtain ⟨as, rd⟩ := Dp.reads I _ _ _ (hk p (p1.mem_iff.mp hp)).dp (show RelV (.ref p.1) (.ref p.1) from rfl)
    exact ⟨as, PyProof.Rows.Reads.keeps (fun b u e => sortingHeap_old (Nat.ne_of_lt (Heap.lt_size (k1 b u e))) (Heap.get?_push_of_some _ (k1 b u e))) rd⟩
  have e0 : EachIs (fun v (b : Addr × List (Int × Int)) => v = Value.ref b.1) vs L1 := by rw [ev]; exact each_maps L1 fun p _ => rfl
  have es2 := maps_each (sortVals_data (enc := fun b : Addr × List (Int × Int) => dRow b.2) false e0 er al)
  have eqs : L1.mergeSort (dataLe false fun b : Addr × List (Int × Int) => dRow b.2) = L1.mergeSort (fun a b => led (dRow a.2) (dRow b.2)) := PySem.W.sort_congr fun a _ b _ => (led_eq (dRow a.2) (dRow b.2)).symm
  rw [eqs] at es2
  have pm2 : (L1.mergeSort (fun a b => led (dRow a.2) (dRow b.2))).Perm L := (List.mergeSort_perm _ _).trans p1
  have pw2 : (L1.mergeSort (fun a b => led (dRow a.2) (dRow b.2))).Pairwise (fun a b => led (dRow a.2) (dRow b.2) = true) :=
    List.pairwise_mergeSort (le := fun a b : Addr × List (Int × Int) => led (dRow a.2) (dRow b.2)) (fun a b c => led_total.trans (dRow a.2) (dRow b.2) (dRow c.2)) (fun a b => by rcases led_total.total (dRow a.2) (dRow b.2) with z | z <;> simp [z]) L1
  generalize L1.mergeSort (fun a b => led (dRow a.2) (dRow b.2)) = L' at es2 pm2 pw2
  have bd : ∀ d ∈ L1.map (fun p => dRow p.2), X.A.in1.in1.units + d.depth < cLine := fun d hd => by
    have := dp d hd
    simp only [Around.in1_units]
    omega
  refine wpAny_bind (wpAny_holding (wpAny_call_entry slot_list_sort ⟨_, hoL, rfl⟩ entry_list_sort
    (list_sort_vals (s := { s1 with heap := s1.heap.push (seqObj "list" vs.toArray 0) }) (κ := dataKind (sortingHeap (s1.heap.push (seqObj "list" vs.toArray 0)) s1.heap.objs.size vs) (L1.map fun p => dRow p.2)) hoL (SortsAt.data (s := { s1 with heap := sortingHeap (s1.heap.push (seqObj "list" vs.toArray 0)) s1.heap.objs.size vs }) (each_map (R := fun v d => ∃ as, Reads (sortingHeap (s1.heap.push (seqObj "list" vs.toArray 0)) s1.heap.objs.size vs) v d as) (fun p : Addr × List (Int × Int) => dRow p.2) er) al so bd) hLv ⟨.none, rfl, wpAny_pure ⟨_, rfl, ?_⟩⟩) (args_list_sort _)))
  rw [es2]
  have hlen : (refsN L').length ≤ sizeLine := by unfold refsN; rw [List.length_map, pm2.length_eq, sizeLine_eq]; omega
  obtain ⟨c, hg⟩ := sortedHeap_at (vs := vs) (out := (L'.map fun q => Value.ref q.1).toArray) hoL
  have hp : s.heap.objs.size ≤ s1.heap.objs.size := hz
  have hn : H s1.heap.objs.size = none := I.hok.fresh hp
  have hv : Vals (refsN L') (L'.map fun q => Value.ref q.1) := vals_refsN L'
  have k : ∀ b u, s.heap.get? b = some u → (sortedHeap (s1.heap.push (seqObj "list" vs.toArray 0)) s1.heap.objs.size vs (L'.map fun q => Value.ref q.1).toArray).get? b = some u := fun b u e => by
    have q := k1 b u e
    have hlt := Heap.lt_size q
    rw [sortedHeap_old (Nat.ne_of_lt hlt) (by rw [size_push']; exact Nat.lt_succ_of_lt hlt)]
    exact Heap.get?_push_of_some _ q
  generalize sortedHeap (s1.heap.push (seqObj "list" vs.toArray 0)) s1.heap.objs.size vs (L'.map fun q => Value.ref q.1).toArray = hF at hg k ⊢
  have J : Inv X pins σ (upd H s1.heap.objs.size (.lst (refsN L'))) { s with heap := hF, gens := s1.gens, drawn := s1.drawn, toks := s1.toks } :=
    I.call (ch := []) (Un.laid k hp hn) (I.hok.laid k hp ⟨hlen, _, c, hv, hg⟩) (by rw [g1]; exact I.bare) (fun _ z => nomatch z)
  have e : ({ s1 with heap := hF } : Shared) = { s with heap := hF, gens := s1.gens, drawn := s1.drawn, toks := s1.toks } := by
    cases s1
    cases s
    cases o1
    rfl
  show ∃ v H', _
  rw [e]
  exact ⟨.ref s1.heap.objs.size, _, J, rfl, q L' _ pm2 pw2 hn⟩
end
/-! ### by data -/
theorem rwsOf_some : ∀ {ds : List D} {rs : List (List (Int × Int))}, rwsOf ds = some rs → ds = rs.map dRow
  | [], _, h => by cases h; rfl
  | d :: ds, rs, h => by
    cases d with
    | tuple xs =>
      replace h : ((prsOf xs).bind fun ps => (rwsOf ds).map (ps :: ·)) = some rs := h
      rw [Option.bind_eq_some_iff] at h
      obtain ⟨ps, h1, h2⟩ := h
      rw [Option.map_eq_some_iff] at h2
      obtain ⟨qs, h3, rfl⟩ := h2
      rw [List.map_cons, ← rwsOf_some h3, prsOf_some h1]
      rfl
    | _ => cases h
theorem ndI_nd : ∀ {l : List Int}, ndI l = true → l.Nodup
  | [], _ => List.nodup_nil
  | x :: l, h => by
    unfold ndI at h
    rw [Bool.and_eq_true, Bool.not_eq_true'] at h
    refine List.nodup_cons.mpr ⟨fun z => ?_, ndI_nd h.2⟩
    rw [List.contains_iff_mem.mpr z] at h
    cases h.1
theorem strB_pw : ∀ {ds : List D}, strB ds = true → ds.Pairwise (fun x y => led y x = false)
  | [], _ => .nil
  | [x], _ => List.pairwise_singleton _ _
  | x :: y :: r, h => by
    unfold strB at h
    rw [Bool.and_eq_true, Bool.not_eq_true'] at h
    have ih := strB_pw h.2
    have hxy : led x y = true := (led_total.total x y).resolve_right (by rw [h.1]; exact Bool.false_ne_true)
    refine List.pairwise_cons.mpr ⟨fun z hz => ?_, ih⟩
    rcases List.mem_cons.mp hz with e | hz
    · rw [e]; exact h.1
    · have q := (List.pairwise_cons.mp ih).1 z hz
      cases e : led z x with
      | false => rfl
      | true => rw [led_total.trans z x y e hxy] at q; cases q
theorem perm_asc {α : Type} {le : α → α → Bool} : ∀ {l m : List α}, l.Perm m → l.Pairwise (fun a b => le a b = true) → m.Pairwise (fun a b => le b a = false) → l = m
  | [], m, p, _, _ => (List.Perm.nil_eq p)
  | x :: l, [], p, _, _ => by have := p.length_eq; cases this
  | x :: l, y :: m, p, hl, hm => by
    obtain ⟨l1, l2⟩ := List.pairwise_cons.mp hl
    obtain ⟨m1, m2⟩ := List.pairwise_cons.mp hm
    have e : x = y := by
      rcases List.mem_cons.mp (p.mem_iff.mp List.mem_cons_self) with e | hx
      · exact e
      · rcases List.mem_cons.mp (p.mem_iff.mpr List.mem_cons_self) with e | hy
        · exact e.symm
        · have a := m1 x hx
          rw [l1 y hy] at a
          cases a
    subst e
    rw [perm_asc (List.Perm.cons_inv p) l2 m2]
/-- where the rows of a list stand -/
theorem rp_rwsN {F : Hp} : ∀ {rs : List (List (Int × Int))} {vs : List V}, RpAll F vs (rs.map dRow) → ∃ ks : List (Addr × List (Int × Int)), vs = refsN ks ∧ ks.map (·.2) = rs ∧ ∀ p ∈ ks, Rp F (.ref p.1) (dRow p.2)
  | [], _, h => by cases h; exact ⟨[], rfl, rfl, fun p hp => by cases hp⟩
  | r :: rs, _, h => by
    cases h with
    | cons h1 h2 =>
      obtain ⟨ks, rfl, e, hk⟩ := rp_rwsN h2
      have h1' := h1
      unfold dRow at h1'
      cases h1' with
      | @tup a vs ds ha hr =>
        refine ⟨(a, r) :: ks, rfl, by rw [List.map_cons, e], fun p hp => ?_⟩
        rcases List.mem_cons.mp hp with z | hp
        · rw [z]; exact h1
        · exact hk p hp
section
variable {X : Cx} {G : Cg} {a : Expr} {da : Ex} {pos p1' p2' p3' : Pos}
theorem ssl_args {σ : L2.St} {H : Hp} {Q : VK} (h : tD G (dSsl da) σ H Q) : tO G da σ H fun v H1 => ∃ A F w d e, Same F H1 ∧ Omg G.C A F H1 w ∧ Ro G.K A F H1 v d ∧ sslP d = some e ∧ Rx.Fin G A F H1 w e Q := by
  obtain ⟨A, F, r, w, x, w', rel, e, post⟩ := h
  unfold dSsl at e
  cases hs : da G.c r w with
  | none => rw [hs] at e; cases e
  | some q =>
    obtain ⟨x1, w1⟩ := q
    rw [hs] at e
    cases x1 with
    | exc y => cases e; exact ⟨A, F, r, w, .exc y, _, rel, hs, post⟩
    | val d =>
      simp only at e
      rw [Option.map_eq_some_iff] at e
      obtain ⟨v, e1, e2⟩ := e
      cases e2
      exact ⟨A, F, r, w, .val d, _, rel, hs, fun u A1 F1 H1 s1 o1 r1 => ⟨A1, F1, _, d, v, s1.fh, o1, r1, e1, fun v A2 F2 H2 s2 o2 r2 => post v A2 F2 H2 (s1.trans s2) o2 r2⟩⟩
theorem pd_ssl (hc : X.calm = true) (hK : G.K = X.K) (hu : X.A.units + 64 < cLine) (hg : Gl X "sorted") (hm : X.mg "sorted" = none) (hg2 : Gl X "set") (hm2 : X.mg "set" = none) (ha : PE X a (tO G da)) (hst : starEach [a] X.env = (false, eval a X.env) :: starEach [] X.env)
    (hst2 : starEach [.Call (.Name "set" p2') [a] [] p3'] X.env = (false, eval (.Call (.Name "set" p2') [a] [] p3') X.env) :: starEach [] X.env) :
    PE X (.Call (.Name "sorted" p1') [.Call (.Name "set" p2') [a] [] p3'] [] pos) (tD G (dSsl da)) := by
  refine peI (pe_callB (cr_sortN hc hu) hg hm (by decide +kernel) (pa_cons (pe_callTy (cr_setN hc hu) hg2 hm2 (by decide +kernel) (pa_cons ha pa_nil hst) (by decide) (by decide) hst rfl) pa_nil hst2) (by decide) (by decide) hst2 rfl)
    fun σ H Q h => tO_imp (ssl_args h) fun v H1 ⟨A, F, w, d1, d, s, o, r1, e, f⟩ => ?_
  cases d1 with
  | list ds =>
    obtain ⟨l, vs, rfl, hl, rp⟩ := r1.lst s
    replace e : ((rwsOf ds).bind fun rs => if (decide (rs.length ≤ 300) && (ndI (rs.map rowH) && (strB ds && srtOk ds))) = true then some (PyData.list ds) else none) = some d := e
    rw [Option.bind_eq_some_iff] at e
    obtain ⟨rs, hrs, e⟩ := e
    split at e
    · rename_i hcnd
      cases e
      simp only [Bool.and_eq_true, decide_eq_true_eq] at hcnd
      obtain ⟨c1, c2, c3, c4⟩ := hcnd
      have := rwsOf_some hrs
      subst this
      obtain ⟨ks, rfl, ek, hk⟩ := rp_rwsN rp
      subst ek
      rw [List.length_map] at c1
      rw [List.map_map] at c2 c4 c3
      have pw : ks.Pairwise (fun a b => led (dRow b.2) (dRow a.2) = false) := List.pairwise_map.mp (strB_pw c3)
      refine ⟨l, ks, rfl, hl, fun p hp => Rp.mono s _ _ (hk p hp), c1, ndI_nd c2, fun p L hp pm => ⟨p, L, rfl, upd_same, fun y hy => ?_, srtOk_perm (pm.map fun p => dRow p.2) c4, by rw [pm.length_eq]; exact c1, fun L' q pm' asc hq => ?_⟩⟩
      · exact Rp.mono (fun b x e => keep_new hp b x (s b x e)) _ _ (hk y (pm.mem_iff.mp hy))
      · have eq : L' = ks := perm_asc (le := fun a b : Addr × List (Int × Int) => led (dRow a.2) (dRow b.2)) (pm'.trans pm) asc pw
        subst eq
        have st1 : Step A F H1 A F (upd H1 p (SetNO X.w p L)) := .newO s hp
        have o1 := o.new st1 (keep_new hp)
        refine f _ A _ _ (st1.trans (.new st1.fh hq)) (o1.new (.new st1.fh hq) (keep_new hq)) (.inl (.lst upd_same ?_))
        exact RpAll.mono (Fin.tup.same_upd_ (st1.fh.free hq)) _ _ rp
    · cases e
  | _ => cases e
end
end Rx

set_option linter.all false
set_option maxRecDepth 100000
set_option autoImplicit false
namespace Rx
namespace Rx10
open PySem

def tl_1 : Sx :=
  (sSeq (sAsg 2 (dPrim .ix (dCons (dPrim .lst (dCons (dC (.int 2)) (dCons (dC (.int 3)) (dCons (dC (.int 4)) (dCons (dC (.int 5)) (dCons (dC (.int 3)) (dCons (dC (.int 4)) (dCons (dC (.int 5)) (dCons (dC (.int 6)) dNil))))))))) (dCons (dPrim .mod (dCons (dPrim .ix (dCons (dVar 1) (dCons (dC (.int 0)) dNil))) (dCons (dC (.int 8)) dNil))) dNil))))
    (sSeq (sAsg 3 (dC (.int 1)))
    (sSeq (sFor (iRng (dCons (dPrim .sub (dCons (dVar 2) (dCons (dC (.int 2)) dNil))) dNil)) (.nm 4)
    (sAsg 3 (dPrim .mul (dCons (dVar 3) (dCons (dVar 2) dNil)))))
    (sSeq (sIf (dPrim .ne (dCons (dCall 64 (dCons (dVar 2) dNil)) (dCons (dVar 3) dNil)))
    (sRet (dC (.bool false)))
    sPass)
    (sSeq (sIf (dPrim .eq (dCons (dVar 2) (dCons (dC (.int 6)) dNil)))
    (sRet (dAnd (dPrim .eq (dCons (dCall 17 (dCons (dC (.int 6)) (dCons (dPrim .tup (dCons (dPrim .tup (dCons (dC (.int 0)) (dCons (dC (.int 1)) dNil))) dNil)) dNil))) (dCons (dC (.int 125)) dNil))) (dPrim .eq (dCons (dCall 18 (dCons (dC (.int 6)) (dCons (dPrim .tup dNil) dNil))) (dCons (dCall 30 (dCons (dC (.int 6)) dNil)) dNil)))))
    sPass)
    (sSeq (sAsg 5 (dCall 66 (dCons (dVar 2) dNil)))
    (sSeq (sIf (dOr (dPrim .ne (dCons (dPrim .len (dCons (dVar 5) dNil)) (dCons (dVar 3) dNil))) (dOr (dPrim .ne (dCons (dVar 5) (dCons (dSsl (dVar 5)) dNil))) (dPrim .notin (dCons (dCall 32 (dCons (dVar 0) (dCons (dC (.int 3)) (dCons (dVar 2) dNil)))) (dCons (dVar 5) dNil)))))
    (sRet (dC (.bool false)))
    sPass)
    (sSeq (sIf (dAnd (dPrim .lt (dCons (dVar 2) (dCons (dC (.int 5)) dNil))) (dPrim .ne (dCons (dVar 5) (dCons (dPrim .sorted (dCons (dCall 62 (dCons (dVar 2) (dCons (dPrim .tup dNil) dNil))) dNil)) dNil))))
    (sRet (dC (.bool false)))
    sPass)
    (sRet (dCall 38 (dCons (dVar 2) (dCons (dPrim .ix (dCons (dVar 5) (dCons (dPrim .mod (dCons (dPrim .ix (dCons (dVar 1) (dCons (dC (.int 1)) dNil))) (dCons (dVar 3) dNil))) dNil))) dNil))))))))))))
def tl_2 : Sx :=
  (sSeq (sAsg 3 (dC (.int 1)))
    (sSeq (sFor (iRng (dCons (dPrim .sub (dCons (dVar 2) (dCons (dC (.int 2)) dNil))) dNil)) (.nm 4)
    (sAsg 3 (dPrim .mul (dCons (dVar 3) (dCons (dVar 2) dNil)))))
    (sSeq (sIf (dPrim .ne (dCons (dCall 64 (dCons (dVar 2) dNil)) (dCons (dVar 3) dNil)))
    (sRet (dC (.bool false)))
    sPass)
    (sSeq (sIf (dPrim .eq (dCons (dVar 2) (dCons (dC (.int 6)) dNil)))
    (sRet (dAnd (dPrim .eq (dCons (dCall 17 (dCons (dC (.int 6)) (dCons (dPrim .tup (dCons (dPrim .tup (dCons (dC (.int 0)) (dCons (dC (.int 1)) dNil))) dNil)) dNil))) (dCons (dC (.int 125)) dNil))) (dPrim .eq (dCons (dCall 18 (dCons (dC (.int 6)) (dCons (dPrim .tup dNil) dNil))) (dCons (dCall 30 (dCons (dC (.int 6)) dNil)) dNil)))))
    sPass)
    (sSeq (sAsg 5 (dCall 66 (dCons (dVar 2) dNil)))
    (sSeq (sIf (dOr (dPrim .ne (dCons (dPrim .len (dCons (dVar 5) dNil)) (dCons (dVar 3) dNil))) (dOr (dPrim .ne (dCons (dVar 5) (dCons (dSsl (dVar 5)) dNil))) (dPrim .notin (dCons (dCall 32 (dCons (dVar 0) (dCons (dC (.int 3)) (dCons (dVar 2) dNil)))) (dCons (dVar 5) dNil)))))
    (sRet (dC (.bool false)))
    sPass)
    (sSeq (sIf (dAnd (dPrim .lt (dCons (dVar 2) (dCons (dC (.int 5)) dNil))) (dPrim .ne (dCons (dVar 5) (dCons (dPrim .sorted (dCons (dCall 62 (dCons (dVar 2) (dCons (dPrim .tup dNil) dNil))) dNil)) dNil))))
    (sRet (dC (.bool false)))
    sPass)
    (sRet (dCall 38 (dCons (dVar 2) (dCons (dPrim .ix (dCons (dVar 5) (dCons (dPrim .mod (dCons (dPrim .ix (dCons (dVar 1) (dCons (dC (.int 1)) dNil))) (dCons (dVar 3) dNil))) dNil))) dNil)))))))))))
def tl_3 : Sx :=
  (sSeq (sFor (iRng (dCons (dPrim .sub (dCons (dVar 2) (dCons (dC (.int 2)) dNil))) dNil)) (.nm 4)
    (sAsg 3 (dPrim .mul (dCons (dVar 3) (dCons (dVar 2) dNil)))))
    (sSeq (sIf (dPrim .ne (dCons (dCall 64 (dCons (dVar 2) dNil)) (dCons (dVar 3) dNil)))
    (sRet (dC (.bool false)))
    sPass)
    (sSeq (sIf (dPrim .eq (dCons (dVar 2) (dCons (dC (.int 6)) dNil)))
    (sRet (dAnd (dPrim .eq (dCons (dCall 17 (dCons (dC (.int 6)) (dCons (dPrim .tup (dCons (dPrim .tup (dCons (dC (.int 0)) (dCons (dC (.int 1)) dNil))) dNil)) dNil))) (dCons (dC (.int 125)) dNil))) (dPrim .eq (dCons (dCall 18 (dCons (dC (.int 6)) (dCons (dPrim .tup dNil) dNil))) (dCons (dCall 30 (dCons (dC (.int 6)) dNil)) dNil)))))
    sPass)
    (sSeq (sAsg 5 (dCall 66 (dCons (dVar 2) dNil)))
    (sSeq (sIf (dOr (dPrim .ne (dCons (dPrim .len (dCons (dVar 5) dNil)) (dCons (dVar 3) dNil))) (dOr (dPrim .ne (dCons (dVar 5) (dCons (dSsl (dVar 5)) dNil))) (dPrim .notin (dCons (dCall 32 (dCons (dVar 0) (dCons (dC (.int 3)) (dCons (dVar 2) dNil)))) (dCons (dVar 5) dNil)))))
    (sRet (dC (.bool false)))
    sPass)
    (sSeq (sIf (dAnd (dPrim .lt (dCons (dVar 2) (dCons (dC (.int 5)) dNil))) (dPrim .ne (dCons (dVar 5) (dCons (dPrim .sorted (dCons (dCall 62 (dCons (dVar 2) (dCons (dPrim .tup dNil) dNil))) dNil)) dNil))))
    (sRet (dC (.bool false)))
    sPass)
    (sRet (dCall 38 (dCons (dVar 2) (dCons (dPrim .ix (dCons (dVar 5) (dCons (dPrim .mod (dCons (dPrim .ix (dCons (dVar 1) (dCons (dC (.int 1)) dNil))) (dCons (dVar 3) dNil))) dNil))) dNil))))))))))
def tl_4 : Sx :=
  (sSeq (sIf (dPrim .ne (dCons (dCall 64 (dCons (dVar 2) dNil)) (dCons (dVar 3) dNil)))
    (sRet (dC (.bool false)))
    sPass)
    (sSeq (sIf (dPrim .eq (dCons (dVar 2) (dCons (dC (.int 6)) dNil)))
    (sRet (dAnd (dPrim .eq (dCons (dCall 17 (dCons (dC (.int 6)) (dCons (dPrim .tup (dCons (dPrim .tup (dCons (dC (.int 0)) (dCons (dC (.int 1)) dNil))) dNil)) dNil))) (dCons (dC (.int 125)) dNil))) (dPrim .eq (dCons (dCall 18 (dCons (dC (.int 6)) (dCons (dPrim .tup dNil) dNil))) (dCons (dCall 30 (dCons (dC (.int 6)) dNil)) dNil)))))
    sPass)
    (sSeq (sAsg 5 (dCall 66 (dCons (dVar 2) dNil)))
    (sSeq (sIf (dOr (dPrim .ne (dCons (dPrim .len (dCons (dVar 5) dNil)) (dCons (dVar 3) dNil))) (dOr (dPrim .ne (dCons (dVar 5) (dCons (dSsl (dVar 5)) dNil))) (dPrim .notin (dCons (dCall 32 (dCons (dVar 0) (dCons (dC (.int 3)) (dCons (dVar 2) dNil)))) (dCons (dVar 5) dNil)))))
    (sRet (dC (.bool false)))
    sPass)
    (sSeq (sIf (dAnd (dPrim .lt (dCons (dVar 2) (dCons (dC (.int 5)) dNil))) (dPrim .ne (dCons (dVar 5) (dCons (dPrim .sorted (dCons (dCall 62 (dCons (dVar 2) (dCons (dPrim .tup dNil) dNil))) dNil)) dNil))))
    (sRet (dC (.bool false)))
    sPass)
    (sRet (dCall 38 (dCons (dVar 2) (dCons (dPrim .ix (dCons (dVar 5) (dCons (dPrim .mod (dCons (dPrim .ix (dCons (dVar 1) (dCons (dC (.int 1)) dNil))) (dCons (dVar 3) dNil))) dNil))) dNil)))))))))
def tl_5 : Sx :=
  (sSeq (sIf (dPrim .eq (dCons (dVar 2) (dCons (dC (.int 6)) dNil)))
    (sRet (dAnd (dPrim .eq (dCons (dCall 17 (dCons (dC (.int 6)) (dCons (dPrim .tup (dCons (dPrim .tup (dCons (dC (.int 0)) (dCons (dC (.int 1)) dNil))) dNil)) dNil))) (dCons (dC (.int 125)) dNil))) (dPrim .eq (dCons (dCall 18 (dCons (dC (.int 6)) (dCons (dPrim .tup dNil) dNil))) (dCons (dCall 30 (dCons (dC (.int 6)) dNil)) dNil)))))
    sPass)
    (sSeq (sAsg 5 (dCall 66 (dCons (dVar 2) dNil)))
    (sSeq (sIf (dOr (dPrim .ne (dCons (dPrim .len (dCons (dVar 5) dNil)) (dCons (dVar 3) dNil))) (dOr (dPrim .ne (dCons (dVar 5) (dCons (dSsl (dVar 5)) dNil))) (dPrim .notin (dCons (dCall 32 (dCons (dVar 0) (dCons (dC (.int 3)) (dCons (dVar 2) dNil)))) (dCons (dVar 5) dNil)))))
    (sRet (dC (.bool false)))
    sPass)
    (sSeq (sIf (dAnd (dPrim .lt (dCons (dVar 2) (dCons (dC (.int 5)) dNil))) (dPrim .ne (dCons (dVar 5) (dCons (dPrim .sorted (dCons (dCall 62 (dCons (dVar 2) (dCons (dPrim .tup dNil) dNil))) dNil)) dNil))))
    (sRet (dC (.bool false)))
    sPass)
    (sRet (dCall 38 (dCons (dVar 2) (dCons (dPrim .ix (dCons (dVar 5) (dCons (dPrim .mod (dCons (dPrim .ix (dCons (dVar 1) (dCons (dC (.int 1)) dNil))) (dCons (dVar 3) dNil))) dNil))) dNil))))))))
def tl_6 : Sx :=
  (sSeq (sAsg 5 (dCall 66 (dCons (dVar 2) dNil)))
    (sSeq (sIf (dOr (dPrim .ne (dCons (dPrim .len (dCons (dVar 5) dNil)) (dCons (dVar 3) dNil))) (dOr (dPrim .ne (dCons (dVar 5) (dCons (dSsl (dVar 5)) dNil))) (dPrim .notin (dCons (dCall 32 (dCons (dVar 0) (dCons (dC (.int 3)) (dCons (dVar 2) dNil)))) (dCons (dVar 5) dNil)))))
    (sRet (dC (.bool false)))
    sPass)
    (sSeq (sIf (dAnd (dPrim .lt (dCons (dVar 2) (dCons (dC (.int 5)) dNil))) (dPrim .ne (dCons (dVar 5) (dCons (dPrim .sorted (dCons (dCall 62 (dCons (dVar 2) (dCons (dPrim .tup dNil) dNil))) dNil)) dNil))))
    (sRet (dC (.bool false)))
    sPass)
    (sRet (dCall 38 (dCons (dVar 2) (dCons (dPrim .ix (dCons (dVar 5) (dCons (dPrim .mod (dCons (dPrim .ix (dCons (dVar 1) (dCons (dC (.int 1)) dNil))) (dCons (dVar 3) dNil))) dNil))) dNil)))))))
def tl_7 : Sx :=
  (sSeq (sIf (dOr (dPrim .ne (dCons (dPrim .len (dCons (dVar 5) dNil)) (dCons (dVar 3) dNil))) (dOr (dPrim .ne (dCons (dVar 5) (dCons (dSsl (dVar 5)) dNil))) (dPrim .notin (dCons (dCall 32 (dCons (dVar 0) (dCons (dC (.int 3)) (dCons (dVar 2) dNil)))) (dCons (dVar 5) dNil)))))
    (sRet (dC (.bool false)))
    sPass)
    (sSeq (sIf (dAnd (dPrim .lt (dCons (dVar 2) (dCons (dC (.int 5)) dNil))) (dPrim .ne (dCons (dVar 5) (dCons (dPrim .sorted (dCons (dCall 62 (dCons (dVar 2) (dCons (dPrim .tup dNil) dNil))) dNil)) dNil))))
    (sRet (dC (.bool false)))
    sPass)
    (sRet (dCall 38 (dCons (dVar 2) (dCons (dPrim .ix (dCons (dVar 5) (dCons (dPrim .mod (dCons (dPrim .ix (dCons (dVar 1) (dCons (dC (.int 1)) dNil))) (dCons (dVar 3) dNil))) dNil))) dNil))))))
def tl_8 : Sx :=
  (sSeq (sIf (dAnd (dPrim .lt (dCons (dVar 2) (dCons (dC (.int 5)) dNil))) (dPrim .ne (dCons (dVar 5) (dCons (dPrim .sorted (dCons (dCall 62 (dCons (dVar 2) (dCons (dPrim .tup dNil) dNil))) dNil)) dNil))))
    (sRet (dC (.bool false)))
    sPass)
    (sRet (dCall 38 (dCons (dVar 2) (dCons (dPrim .ix (dCons (dVar 5) (dCons (dPrim .mod (dCons (dPrim .ix (dCons (dVar 1) (dCons (dC (.int 1)) dNil))) (dCons (dVar 3) dNil))) dNil))) dNil)))))
def tl_9 : Sx :=
  (sRet (dCall 38 (dCons (dVar 2) (dCons (dPrim .ix (dCons (dVar 5) (dCons (dPrim .mod (dCons (dPrim .ix (dCons (dVar 1) (dCons (dC (.int 1)) dNil))) (dCons (dVar 3) dNil))) dNil))) dNil))))
def b_law : Sx :=
  (sSeq (sAsg 1 (dCall 29 (dCons (dVar 0) (dCons (dC (.int 4)) dNil))))
    (sSeq (sAsg 2 (dPrim .ix (dCons (dPrim .lst (dCons (dC (.int 2)) (dCons (dC (.int 3)) (dCons (dC (.int 4)) (dCons (dC (.int 5)) (dCons (dC (.int 3)) (dCons (dC (.int 4)) (dCons (dC (.int 5)) (dCons (dC (.int 6)) dNil))))))))) (dCons (dPrim .mod (dCons (dPrim .ix (dCons (dVar 1) (dCons (dC (.int 0)) dNil))) (dCons (dC (.int 8)) dNil))) dNil))))
    (sSeq (sAsg 3 (dC (.int 1)))
    (sSeq (sFor (iRng (dCons (dPrim .sub (dCons (dVar 2) (dCons (dC (.int 2)) dNil))) dNil)) (.nm 4)
    (sAsg 3 (dPrim .mul (dCons (dVar 3) (dCons (dVar 2) dNil)))))
    (sSeq (sIf (dPrim .ne (dCons (dCall 64 (dCons (dVar 2) dNil)) (dCons (dVar 3) dNil)))
    (sRet (dC (.bool false)))
    sPass)
    (sSeq (sIf (dPrim .eq (dCons (dVar 2) (dCons (dC (.int 6)) dNil)))
    (sRet (dAnd (dPrim .eq (dCons (dCall 17 (dCons (dC (.int 6)) (dCons (dPrim .tup (dCons (dPrim .tup (dCons (dC (.int 0)) (dCons (dC (.int 1)) dNil))) dNil)) dNil))) (dCons (dC (.int 125)) dNil))) (dPrim .eq (dCons (dCall 18 (dCons (dC (.int 6)) (dCons (dPrim .tup dNil) dNil))) (dCons (dCall 30 (dCons (dC (.int 6)) dNil)) dNil)))))
    sPass)
    (sSeq (sAsg 5 (dCall 66 (dCons (dVar 2) dNil)))
    (sSeq (sIf (dOr (dPrim .ne (dCons (dPrim .len (dCons (dVar 5) dNil)) (dCons (dVar 3) dNil))) (dOr (dPrim .ne (dCons (dVar 5) (dCons (dSsl (dVar 5)) dNil))) (dPrim .notin (dCons (dCall 32 (dCons (dVar 0) (dCons (dC (.int 3)) (dCons (dVar 2) dNil)))) (dCons (dVar 5) dNil)))))
    (sRet (dC (.bool false)))
    sPass)
    (sSeq (sIf (dAnd (dPrim .lt (dCons (dVar 2) (dCons (dC (.int 5)) dNil))) (dPrim .ne (dCons (dVar 5) (dCons (dPrim .sorted (dCons (dCall 62 (dCons (dVar 2) (dCons (dPrim .tup dNil) dNil))) dNil)) dNil))))
    (sRet (dC (.bool false)))
    sPass)
    (sRet (dCall 38 (dCons (dVar 2) (dCons (dPrim .ix (dCons (dVar 5) (dCons (dPrim .mod (dCons (dPrim .ix (dCons (dVar 1) (dCons (dC (.int 1)) dNil))) (dCons (dVar 3) dNil))) dNil))) dNil)))))))))))))
def f_law : Fd := ⟨1, 6, b_law⟩
structure Has (T : Tb) : Prop where
  in_range : T 1 = some f_in_range
  check_size : T 2 = some f_check_size
  is_exchange : T 3 = some f_is_exchange
  are_exchanges : T 4 = some f_are_exchanges
  check_part : T 6 = some f_check_part
  moved : T 7 = some f_moved
  result_of : T 8 = some f_result_of
  every_exchange : T 14 = some f_every_exchange
  rest_groups : T 15 = some f_rest_groups
  completions_of : T 16 = some f_completions_of
  count_lists : T 64 = some f_count_lists
  count_completions : T 17 = some f_count_completions
  next_exchanges : T 18 = some f_next_exchanges
  lists_from : T 65 = some f_lists_from
  all_lists : T 66 = some f_all_lists
  _law_cell : T 28 = some f__law_cell
  _law_row : T 29 = some f__law_row
  _law_pairs : T 30 = some f__law_pairs
  _law_to : T 31 = some f__law_to
  _law_result : T 37 = some f__law_result
  _law_is_round : T 38 = some f__law_is_round
  _law_round : T 32 = some f__law_round
  _law_loop : T 47 = some f__law_loop
  _law_all : T 62 = some f__law_all
  law : T 0 = some f_law
end Rx10
end Rx

set_option Elab.async false
set_option linter.all false
set_option maxRecDepth 100000
set_option maxHeartbeats 4000000
set_option autoImplicit false
namespace Rx
namespace Rx10
open PySem L2

def topS (i : Nat) : Stmt := PySem.Challenge.pw_roundexchanges_k10_whole_all_lists.main.body.getD i (.Pass ⟨0, 0, 0, 0⟩)
def xsL : List (Nat × Str) := [(0, "ExchangeError"), (2, "InvalidSize"), (3, "InvalidList")]
abbrev n_in_range : List Str := ["value", "low", "high"]
abbrev s_in_range : Stmt := topS 6
def d_in_range : Df := ⟨s_in_range, "in_range", n_in_range, ["value", "low", "high"], [], b_in_range⟩
theorem sc_in_range : FnScope n_in_range ["value", "low", "high"] (defScope s_in_range) := ⟨rfl, rfl, rfl, by decide +kernel, rfl, by decide +kernel, by decide +kernel⟩
theorem w_in_range {P : Program} {w : World} {K : PySem.W.Frag} {mg : Str → Option Value} {base : Heap} {C : Addr} {ec : Nat → Option Value} {c : Cf} {k : Nat} (m_isinstance : mg "isinstance" = none) (m_int : mg "int" = none) (m_bool : mg "bool" = none) : BodyOk P w K mg base C ec c k d_in_range := by
  intro f cdv A outer s H E A0 F0 hr
  have nd : (n_in_range).Nodup := sc_in_range.nd
  show PSs (cxOf (L2.CX P w) P w K mg base n_in_range "in_range" (defScope s_in_range) f cdv A outer s H E) (defBody s_in_range) (tS ⟨K, C, [], fun cls dd _ H' => E cls dd H', c, ec, A0, F0, H⟩ b_in_range)
  exact (pssd_one (psd_ret (pd_and rfl (pd_isi .int rfl m_isinstance rfl m_int (po_var (i := 0) rfl (.inl rfl) (by decide) (by decide)) rfl) (pd_and rfl (pd_notE rfl (poOf (pd_isi .bool rfl m_isinstance rfl m_bool (po_var (i := 0) rfl (.inl rfl) (by decide) (by decide)) rfl))) (pd_one (pd_chain cs_le cs_le rfl (po_var (i := 1) rfl (.inl rfl) (by decide) (by decide)) (po_var (i := 0) rfl (.inl rfl) (by decide) (by decide)) (po_var (i := 2) rfl (.inl rfl) (by decide) (by decide)) rfl))))))
abbrev n_check_size : List Str := ["size"]
abbrev s_check_size : Stmt := topS 7
def d_check_size : Df := ⟨s_check_size, "check_size", n_check_size, ["size"], [], b_check_size⟩
theorem sc_check_size : FnScope n_check_size ["size"] (defScope s_check_size) := ⟨rfl, rfl, rfl, by decide +kernel, rfl, by decide +kernel, by decide +kernel⟩
theorem w_check_size {P : Program} {w : World} {K : PySem.W.Frag} {mg : Str → Option Value} {base : Heap} {C : Addr} {ec : Nat → Option Value} {c : Cf} {k : Nat} (c_in_range : Callee P w K mg base C ec c k "in_range" 1 3) (g_MAX_SIZE : ∃ t, mg "MAX_SIZE" = some (.int 6 t)) (xa : XAll K mg ec xsL) : BodyOk P w K mg base C ec c k d_check_size := by
  intro f cdv A outer s H E A0 F0 hr
  have nd : (n_check_size).Nodup := sc_check_size.nd
  show PSs (cxOf (L2.CX P w) P w K mg base n_check_size "check_size" (defScope s_check_size) f cdv A outer s H E) (defBody s_check_size) (tS ⟨K, C, [], fun cls dd _ H' => E cls dd H', c, ec, A0, F0, H⟩ b_check_size)
  exact (pssd_one (psd_if (ptd_not (pt_of rfl (poOf (pd_callE rfl (takes_of rfl rfl rfl rfl) c_in_range hr rfl (pad_cons (pd_var (i := 0) rfl (.inl rfl) (by decide) (by decide) rfl) (pad_cons pd_int (pad_cons (pd_globI rfl g_MAX_SIZE (by decide)) pad_nil rfl) rfl) rfl) rfl (by decide) rfl rfl (dCons_len (dCons_len (dCons_len dNil_len))))) (fun _ => rfl)))
    (pssd_one (psd_raiseE (xs := xsL) rfl (takes_of rfl rfl rfl rfl) xa (by decide) rfl (by decide)))
    pssd_nil))
abbrev n_is_exchange : List Str := ["size", "value"]
abbrev s_is_exchange : Stmt := topS 8
def d_is_exchange : Df := ⟨s_is_exchange, "is_exchange", n_is_exchange, ["size", "value"], [], b_is_exchange⟩
theorem sc_is_exchange : FnScope n_is_exchange ["size", "value"] (defScope s_is_exchange) := ⟨rfl, rfl, rfl, by decide +kernel, rfl, by decide +kernel, by decide +kernel⟩
theorem w_is_exchange {P : Program} {w : World} {K : PySem.W.Frag} {mg : Str → Option Value} {base : Heap} {C : Addr} {ec : Nat → Option Value} {c : Cf} {k : Nat} (m_isinstance : mg "isinstance" = none) (m_tuple : mg "tuple" = none) (m_len : mg "len" = none) (c_in_range : Callee P w K mg base C ec c k "in_range" 1 3) : BodyOk P w K mg base C ec c k d_is_exchange := by
  intro f cdv A outer s H E A0 F0 hr
  have nd : (n_is_exchange).Nodup := sc_is_exchange.nd
  show PSs (cxOf (L2.CX P w) P w K mg base n_is_exchange "is_exchange" (defScope s_is_exchange) f cdv A outer s H E) (defBody s_is_exchange) (tS ⟨K, C, [], fun cls dd _ H' => E cls dd H', c, ec, A0, F0, H⟩ b_is_exchange)
  exact (pssd_cons (psd_if (PW.pt (pwd_or (ptd_not (pt_of rfl (poOf (pd_isi .tuple rfl m_isinstance rfl m_tuple (po_var (i := 1) rfl (.inl rfl) (by decide) (by decide)) rfl)) (fun _ => rfl))) (pwd_or (ptd_cmp (cs_ne rfl hr.units) rfl (poOf (pd_len rfl rfl rfl m_len (po_var (i := 1) rfl (.inl rfl) (by decide) (by decide)))) (poOf pd_int) (nomark _)) (pwd_or1 (ptd_not (pt_of rfl (poOf (pd_callE rfl (takes_of rfl rfl rfl rfl) c_in_range hr rfl (pad_cons (pd_ix rfl (po_var (i := 1) rfl (.inl rfl) (by decide) (by decide)) (poOf pd_int) (fun _ _ => rfl)) (pad_cons pd_int (pad_cons (pd_sub (po_var (i := 0) rfl (.inl rfl) (by decide) (by decide)) (poOf pd_int)) pad_nil rfl) rfl) rfl) rfl (by decide) rfl rfl (dCons_len (dCons_len (dCons_len dNil_len))))) (fun _ => rfl)))))))
    (pssd_one (psd_ret pd_bl))
    pssd_nil)
    (pssd_one (psd_ret (pd_callE rfl (takes_of rfl rfl rfl rfl) c_in_range hr rfl (pad_cons (pd_ix rfl (po_var (i := 1) rfl (.inl rfl) (by decide) (by decide)) (poOf pd_int) (fun _ _ => rfl)) (pad_cons (pd_add (poOf (pd_ix rfl (po_var (i := 1) rfl (.inl rfl) (by decide) (by decide)) (poOf pd_int) (fun _ _ => rfl))) (poOf pd_int)) (pad_cons (pd_sub (po_var (i := 0) rfl (.inl rfl) (by decide) (by decide)) (poOf pd_int)) pad_nil rfl) rfl) rfl) rfl (by decide) rfl rfl (dCons_len (dCons_len (dCons_len dNil_len)))))))
abbrev n_are_exchanges : List Str := ["size", "value", "most", "one"]
abbrev s_are_exchanges : Stmt := topS 9
def d_are_exchanges : Df := ⟨s_are_exchanges, "are_exchanges", n_are_exchanges, ["size", "value", "most"], [], b_are_exchanges⟩
theorem sc_are_exchanges : FnScope n_are_exchanges ["size", "value", "most"] (defScope s_are_exchanges) := ⟨rfl, rfl, rfl, by decide +kernel, rfl, by decide +kernel, by decide +kernel⟩
theorem w_are_exchanges {P : Program} {w : World} {K : PySem.W.Frag} {mg : Str → Option Value} {base : Heap} {C : Addr} {ec : Nat → Option Value} {c : Cf} {k : Nat} (m_isinstance : mg "isinstance" = none) (m_tuple : mg "tuple" = none) (m_len : mg "len" = none) (c_is_exchange : Callee P w K mg base C ec c k "is_exchange" 3 2) : BodyOk P w K mg base C ec c k d_are_exchanges := by
  intro f cdv A outer s H E A0 F0 hr
  have nd : (n_are_exchanges).Nodup := sc_are_exchanges.nd
  show PSs (cxOf (L2.CX P w) P w K mg base n_are_exchanges "are_exchanges" (defScope s_are_exchanges) f cdv A outer s H E) (defBody s_are_exchanges) (tS ⟨K, C, [], fun cls dd _ H' => E cls dd H', c, ec, A0, F0, H⟩ b_are_exchanges)
  exact (pssd_cons (psd_if (PW.pt (pwd_or (ptd_not (pt_of rfl (poOf (pd_isi .tuple rfl m_isinstance rfl m_tuple (po_var (i := 1) rfl (.inl rfl) (by decide) (by decide)) rfl)) (fun _ => rfl))) (pwd_or1 (ptd_cmp cs_gt rfl (poOf (pd_len rfl rfl rfl m_len (po_var (i := 1) rfl (.inl rfl) (by decide) (by decide)))) (po_var (i := 2) rfl (.inl rfl) (by decide) (by decide)) (nomark _)))))
    (pssd_one (psd_ret pd_bl))
    pssd_nil)
    (pssd_one (psd_ret (pd_notE rfl (poOf (pd_comp (own := [("one", 3)]) rfl nd (pid_seqS (po_var (i := 1) rfl (.inl rfl) (by decide) (by decide))) (blkOk_by rfl) (fun _ _ _ _ _ => (pgd_name (i := 3) nd rfl (.inl rfl) (.inr rfl))) (fun _ _ _ _ _ => (pts_cond (.inr ⟨_, _, rfl, rfl, (ptd_not (pt_of rfl (poOf (pd_callE rfl takes_none5 c_is_exchange hr rfl (pad_cons (pd_var (i := 0) rfl (.inr (.inl rfl)) (by decide) (by decide) rfl) (pad_cons (pd_var (i := 3) rfl (.inl rfl) (by decide) (by decide) rfl) pad_nil rfl) rfl) rfl (by decide) rfl rfl (dCons_len (dCons_len dNil_len)))) (fun _ => rfl)))⟩))) (fun _ _ _ _ _ => (pd_var (i := 3) rfl (.inl rfl) (by decide) (by decide) rfl)) (fun _ => rfl) (inL rfl)))))))
abbrev n_check_part : List Str := ["size", "row"]
abbrev s_check_part : Stmt := topS 10
def d_check_part : Df := ⟨s_check_part, "check_part", n_check_part, ["size", "row"], [], b_check_part⟩
theorem sc_check_part : FnScope n_check_part ["size", "row"] (defScope s_check_part) := ⟨rfl, rfl, rfl, by decide +kernel, rfl, by decide +kernel, by decide +kernel⟩
theorem w_check_part {P : Program} {w : World} {K : PySem.W.Frag} {mg : Str → Option Value} {base : Heap} {C : Addr} {ec : Nat → Option Value} {c : Cf} {k : Nat} (c_check_size : Callee P w K mg base C ec c k "check_size" 2 1) (c_are_exchanges : Callee P w K mg base C ec c k "are_exchanges" 4 3) (xa : XAll K mg ec xsL) : BodyOk P w K mg base C ec c k d_check_part := by
  intro f cdv A outer s H E A0 F0 hr
  have nd : (n_check_part).Nodup := sc_check_part.nd
  show PSs (cxOf (L2.CX P w) P w K mg base n_check_part "check_part" (defScope s_check_part) f cdv A outer s H E) (defBody s_check_part) (tS ⟨K, C, [], fun cls dd _ H' => E cls dd H', c, ec, A0, F0, H⟩ b_check_part)
  exact (pssd_cons (psd_expr (poOf (pd_callE rfl (takes_of rfl rfl rfl rfl) c_check_size hr rfl (pad_cons (pd_var (i := 0) rfl (.inl rfl) (by decide) (by decide) rfl) pad_nil rfl) rfl (by decide) rfl rfl (dCons_len dNil_len))) rfl)
    (pssd_one (psd_if (ptd_not (pt_of rfl (poOf (pd_callE rfl (takes_of rfl rfl rfl rfl) c_are_exchanges hr rfl (pad_cons (pd_var (i := 0) rfl (.inl rfl) (by decide) (by decide) rfl) (pad_cons (pd_var (i := 1) rfl (.inl rfl) (by decide) (by decide) rfl) (pad_cons (pd_sub (po_var (i := 0) rfl (.inl rfl) (by decide) (by decide)) (poOf pd_int)) pad_nil rfl) rfl) rfl) rfl (by decide) rfl rfl (dCons_len (dCons_len (dCons_len dNil_len))))) (fun _ => rfl)))
    (pssd_one (psd_raiseE (xs := xsL) rfl (takes_of rfl rfl rfl rfl) xa (by decide) rfl (by decide)))
    pssd_nil)))
abbrev n_moved : List Str := ["one", "place"]
abbrev s_moved : Stmt := topS 11
def d_moved : Df := ⟨s_moved, "moved", n_moved, ["one", "place"], [], b_moved⟩
theorem sc_moved : FnScope n_moved ["one", "place"] (defScope s_moved) := ⟨rfl, rfl, rfl, by decide +kernel, rfl, by decide +kernel, by decide +kernel⟩
theorem w_moved {P : Program} {w : World} {K : PySem.W.Frag} {mg : Str → Option Value} {base : Heap} {C : Addr} {ec : Nat → Option Value} {c : Cf} {k : Nat}  : BodyOk P w K mg base C ec c k d_moved := by
  intro f cdv A outer s H E A0 F0 hr
  have nd : (n_moved).Nodup := sc_moved.nd
  show PSs (cxOf (L2.CX P w) P w K mg base n_moved "moved" (defScope s_moved) f cdv A outer s H E) (defBody s_moved) (tS ⟨K, C, [], fun cls dd _ H' => E cls dd H', c, ec, A0, F0, H⟩ b_moved)
  exact (pssd_cons (psd_if (ptd_cmp (cs_eq rfl hr.units) rfl (po_var (i := 1) rfl (.inl rfl) (by decide) (by decide)) (poOf (pd_ix rfl (po_var (i := 0) rfl (.inl rfl) (by decide) (by decide)) (poOf pd_int) (fun _ _ => rfl))) (nomark _))
    (pssd_one (psd_ret (pd_ix rfl (po_var (i := 0) rfl (.inl rfl) (by decide) (by decide)) (poOf pd_int) (fun _ _ => rfl))))
    pssd_nil)
    (pssd_one (psd_ret (pd_ite (ptd_cmp (cs_eq rfl hr.units) rfl (po_var (i := 1) rfl (.inl rfl) (by decide) (by decide)) (poOf (pd_ix rfl (po_var (i := 0) rfl (.inl rfl) (by decide) (by decide)) (poOf pd_int) (fun _ _ => rfl))) (nomark _)) (pd_ix rfl (po_var (i := 0) rfl (.inl rfl) (by decide) (by decide)) (poOf pd_int) (fun _ _ => rfl)) (pd_var (i := 1) rfl (.inl rfl) (by decide) (by decide) rfl)))))
abbrev n_result_of : List Str := ["size", "row", "result", "start", "place", "one"]
abbrev s_result_of : Stmt := topS 12
def d_result_of : Df := ⟨s_result_of, "result_of", n_result_of, ["size", "row"], [2], b_result_of⟩
theorem sc_result_of : FnScope n_result_of ["size", "row"] (defScope s_result_of) := ⟨rfl, rfl, rfl, by decide +kernel, rfl, by decide +kernel, by decide +kernel⟩
theorem w_result_of {P : Program} {w : World} {K : PySem.W.Frag} {mg : Str → Option Value} {base : Heap} {C : Addr} {ec : Nat → Option Value} {c : Cf} {k : Nat} (m_range : mg "range" = none) (c_moved : Callee P w K mg base C ec c k "moved" 7 2) (m_tuple : mg "tuple" = none) : BodyOk P w K mg base C ec c k d_result_of := by
  intro f cdv A outer s H E A0 F0 hr
  have nd : (n_result_of).Nodup := sc_result_of.nd
  show PSs (cxOf (L2.CX P w) P w K mg base n_result_of "result_of" (defScope s_result_of) f cdv A outer s H E) (defBody s_result_of) (tS ⟨K, C, [2], fun cls dd _ H' => E cls dd H', c, ec, A0, F0, H⟩ b_result_of)
  exact (pssd_cons (psd_setF (i := 2) nd rfl (.inl rfl) (pf_lst pad_nil) rfl (.inl rfl) rfl)
    (pssd_cons (psd_for (passes_of rfl) rfl (pid_rng1 rfl m_range (po_var (i := 0) rfl (.inl rfl) (by decide) (by decide)) rfl) (pgd_name (i := 3) nd rfl (.inl rfl) (.inl rfl)) (notM rfl)
    (pssd_cons (psd_set (i := 4) nd rfl (.inl rfl) (pd_var (i := 3) rfl (.inl rfl) (by decide) (by decide) rfl) rfl (.inl rfl) rfl)
    (pssd_cons (psd_for (passes_of rfl) rfl (pid_seqF (pd_var (i := 1) rfl (.inl rfl) (by decide) (by decide) rfl)) (pgd_name (i := 5) nd rfl (.inl rfl) (.inl rfl)) (notM rfl)
    (pssd_one (psd_set (i := 4) nd rfl (.inl rfl) (pd_callE rfl (takes_of rfl rfl rfl rfl) c_moved hr rfl (pad_cons (pd_var (i := 5) rfl (.inl rfl) (by decide) (by decide) rfl) (pad_cons (pd_var (i := 4) rfl (.inl rfl) (by decide) (by decide) rfl) pad_nil rfl) rfl) rfl (by decide) rfl rfl (dCons_len (dCons_len dNil_len))) rfl (.inl rfl) rfl)) (fun _ => rfl))
    (pssd_one (psd_appendE (i := 2) rfl (.inl rfl) (by decide) (by decide) rfl (pd_var (i := 4) rfl (.inl rfl) (by decide) (by decide) rfl) rfl rfl rfl rfl)))) (fun _ => rfl))
    (pssd_one (psd_ret (pd_tuplex rfl rfl m_tuple (po_var (i := 2) rfl (.inl rfl) (by decide) (by decide)))))))
abbrev n_every_exchange : List Str := ["size", "one", "other"]
abbrev s_every_exchange : Stmt := topS 14
def d_every_exchange : Df := ⟨s_every_exchange, "every_exchange", n_every_exchange, ["size"], [], b_every_exchange⟩
theorem sc_every_exchange : FnScope n_every_exchange ["size"] (defScope s_every_exchange) := ⟨rfl, rfl, rfl, by decide +kernel, rfl, by decide +kernel, by decide +kernel⟩
theorem w_every_exchange {P : Program} {w : World} {K : PySem.W.Frag} {mg : Str → Option Value} {base : Heap} {C : Addr} {ec : Nat → Option Value} {c : Cf} {k : Nat} (m_range : mg "range" = none) : BodyOk P w K mg base C ec c k d_every_exchange := by
  intro f cdv A outer s H E A0 F0 hr
  have nd : (n_every_exchange).Nodup := sc_every_exchange.nd
  show PSs (cxOf (L2.CX P w) P w K mg base n_every_exchange "every_exchange" (defScope s_every_exchange) f cdv A outer s H E) (defBody s_every_exchange) (tS ⟨K, C, [], fun cls dd _ H' => E cls dd H', c, ec, A0, F0, H⟩ b_every_exchange)
  exact (pssd_one (psd_ret (pd_comp2 (own := [("one", 1), ("other", 2)]) (own2 := [2]) rfl nd (pid_rng1 rfl m_range (po_var (i := 0) rfl (.inr (.inl rfl)) (by decide) (by decide)) rfl) (blkOk_by rfl) (inL rfl) (fun _ _ _ _ _ => (pgd_name (i := 1) nd rfl (.inl rfl) (.inr rfl))) (fun _ _ _ _ _ => (pid_rng2 rfl m_range (poOf (pd_add (po_var (i := 1) rfl (.inl rfl) (by decide) (by decide)) (poOf pd_int))) (po_var (i := 0) rfl (.inr (.inl rfl)) (by decide) (by decide)) rfl rfl)) (fun _ _ _ _ _ => (pgd_name (i := 2) nd rfl (.inl rfl) (.inr rfl))) (fun _ _ _ _ _ => (pd_tup (pad_cons (pd_var (i := 1) rfl (.inl rfl) (by decide) (by decide) rfl) (pad_cons (pd_var (i := 2) rfl (.inl rfl) (by decide) (by decide) rfl) pad_nil rfl) rfl))) (fun _ => rfl) (fun _ _ => rfl) (inL rfl) (inL rfl))))
abbrev n_rest_groups : List Str := ["size", "row", "moves", "back", "needed", "result", "start", "group", "place"]
abbrev s_rest_groups : Stmt := topS 15
def d_rest_groups : Df := ⟨s_rest_groups, "rest_groups", n_rest_groups, ["size", "row"], [5, 7], b_rest_groups⟩
theorem sc_rest_groups : FnScope n_rest_groups ["size", "row"] (defScope s_rest_groups) := ⟨rfl, rfl, rfl, by decide +kernel, rfl, by decide +kernel, by decide +kernel⟩
theorem w_rest_groups {P : Program} {w : World} {K : PySem.W.Frag} {mg : Str → Option Value} {base : Heap} {C : Addr} {ec : Nat → Option Value} {c : Cf} {k : Nat} (c_result_of : Callee P w K mg base C ec c k "result_of" 8 2) (m_range : mg "range" = none) : BodyOk P w K mg base C ec c k d_rest_groups := by
  intro f cdv A outer s H E A0 F0 hr
  have nd : (n_rest_groups).Nodup := sc_rest_groups.nd
  show PSs (cxOf (L2.CX P w) P w K mg base n_rest_groups "rest_groups" (defScope s_rest_groups) f cdv A outer s H E) (defBody s_rest_groups) (tS ⟨K, C, [5, 7], fun cls dd _ H' => E cls dd H', c, ec, A0, F0, H⟩ b_rest_groups)
  exact (pssd_cons (psd_set (i := 2) nd rfl (.inr rfl) (pd_callE rfl (takes_of rfl rfl rfl rfl) c_result_of hr rfl (pad_cons (pd_var (i := 0) rfl (.inr (.inl rfl)) (by decide) (by decide) rfl) (pad_cons (pd_var (i := 1) rfl (.inl rfl) (by decide) (by decide) rfl) pad_nil rfl) rfl) rfl (by decide) rfl rfl (dCons_len (dCons_len dNil_len))) rfl (.inl rfl) rfl)
    (pssd_cons (psd_set (i := 3) nd rfl (.inr rfl) (pd_comp (own := [("place", 8)]) rfl nd (pid_rng1 rfl m_range (po_var (i := 0) rfl (.inr (.inl rfl)) (by decide) (by decide)) rfl) (blkOk_by rfl) (fun _ _ _ _ _ => (pgd_name (i := 8) nd rfl (.inl rfl) (.inr rfl))) (fun _ _ _ _ _ => (pts_cond (.inl ⟨rfl, rfl⟩))) (fun _ _ _ _ _ => (pd_index rfl rfl rfl rfl rfl (po_var (i := 2) rfl (.inr (.inl rfl)) (by decide) (by decide)) (po_var (i := 8) rfl (.inl rfl) (by decide) (by decide)))) (fun _ => rfl) (inL rfl)) rfl (.inl rfl) rfl)
    (pssd_cons (psd_setLcE (own := [("place", 8)]) rfl nd (pid_rng1 rfl m_range (po_var (i := 0) rfl (.inr (.inl rfl)) (by decide) (by decide)) rfl) (blkOk_by rfl) (fun _ _ _ _ _ => (pgd_name (i := 8) nd rfl (.inl rfl) (.inr rfl))) (fun _ _ _ _ _ => (pts_cond (.inl ⟨rfl, rfl⟩))) (fun _ _ _ _ _ => (pd_mod (poOf (pd_add (poOf (pd_ix rfl (po_var (i := 3) rfl (.inr (.inl rfl)) (by decide) (by decide)) (po_var (i := 8) rfl (.inl rfl) (by decide) (by decide)) (fun _ _ => rfl))) (poOf pd_int))) (po_var (i := 0) rfl (.inr (.inl rfl)) (by decide) (by decide)))) (fun _ => rfl) (inL rfl) rfl rfl rfl)
    (pssd_cons (psd_setF (i := 5) nd rfl (.inl rfl) (pf_lst pad_nil) rfl (.inl rfl) rfl)
    (pssd_cons (psd_for (passes_of rfl) rfl (pid_rng1 rfl m_range (po_var (i := 0) rfl (.inr (.inl rfl)) (by decide) (by decide)) rfl) (pgd_name (i := 6) nd rfl (.inr rfl) (.inl rfl)) (notM rfl)
    (pssd_one (psd_if (ptd_not (pt_of rfl (poOf (pd_comp (own := [("group", 7)]) rfl nd (pid_seqS (po_var (i := 5) rfl (.inl rfl) (by decide) (by decide))) (blkOk_by rfl) (fun _ _ _ _ _ => (pgd_name (i := 7) nd rfl (.inl rfl) (.inr rfl))) (fun _ _ _ _ _ => (pts_cond (.inr ⟨_, _, rfl, rfl, (ptd_cmp (cs_in rfl hr.units) rfl (po_var (i := 6) rfl (.inr (.inl rfl)) (by decide) (by decide)) (po_var (i := 7) rfl (.inl rfl) (by decide) (by decide)) rfl)⟩))) (fun _ _ _ _ _ => (pd_var (i := 7) rfl (.inl rfl) (by decide) (by decide) rfl)) (fun _ => rfl) (inL rfl))) (fun _ => rfl)))
    (pssd_cons (psd_setF (i := 7) nd rfl (.inl rfl) (pf_lst (pad_cons (pd_var (i := 6) rfl (.inr (.inl rfl)) (by decide) (by decide) rfl) pad_nil rfl)) rfl (.inl rfl) rfl)
    (pssd_cons (psd_while (n := 1000) (passes_of rfl) (ptd_cmp (cs_ne rfl hr.units) rfl (poOf (pd_ix rfl (po_var (i := 4) rfl (.inl rfl) (by decide) (by decide)) (poOf (pd_ix rfl (po_var (i := 7) rfl (.inl rfl) (by decide) (by decide)) (poOf (pd_neg (poOf pd_int))) (fun _ _ => rfl))) (fun _ _ => rfl))) (po_var (i := 6) rfl (.inr (.inl rfl)) (by decide) (by decide)) (nomark _))
    (pssd_one (psd_appendE (i := 7) rfl (.inl rfl) (by decide) (by decide) rfl (pd_ix rfl (po_var (i := 4) rfl (.inl rfl) (by decide) (by decide)) (poOf (pd_ix rfl (po_var (i := 7) rfl (.inl rfl) (by decide) (by decide)) (poOf (pd_neg (poOf pd_int))) (fun _ _ => rfl))) (fun _ _ => rfl)) rfl rfl rfl rfl)))
    (pssd_one (psd_appendMv (i := 5) rfl (.inl rfl) (by decide) (by decide) rfl (j := 7) rfl (.inl rfl) (by decide) (by decide) rfl rfl))))
    pssd_nil)) (fun _ => rfl))
    (pssd_one (psd_retV (i := 5) rfl (.inl rfl) (by decide) (by decide))))))))
abbrev n_completions_of : List Str := ["size", "row", "rest", "result", "number", "group", "below"]
abbrev s_completions_of : Stmt := topS 16
def d_completions_of : Df := ⟨s_completions_of, "completions_of", n_completions_of, ["size", "row"], [], b_completions_of⟩
theorem sc_completions_of : FnScope n_completions_of ["size", "row"] (defScope s_completions_of) := ⟨rfl, rfl, rfl, by decide +kernel, rfl, by decide +kernel, by decide +kernel⟩
theorem w_completions_of {P : Program} {w : World} {K : PySem.W.Frag} {mg : Str → Option Value} {base : Heap} {C : Addr} {ec : Nat → Option Value} {c : Cf} {k : Nat} (c_rest_groups : Callee P w K mg base C ec c k "rest_groups" 15 2) (m_len : mg "len" = none) (m_range : mg "range" = none) : BodyOk P w K mg base C ec c k d_completions_of := by
  intro f cdv A outer s H E A0 F0 hr
  have nd : (n_completions_of).Nodup := sc_completions_of.nd
  show PSs (cxOf (L2.CX P w) P w K mg base n_completions_of "completions_of" (defScope s_completions_of) f cdv A outer s H E) (defBody s_completions_of) (tS ⟨K, C, [], fun cls dd _ H' => E cls dd H', c, ec, A0, F0, H⟩ b_completions_of)
  exact (pssd_cons (psd_set (i := 2) nd rfl (.inl rfl) (pd_callE rfl (takes_of rfl rfl rfl rfl) c_rest_groups hr rfl (pad_cons (pd_var (i := 0) rfl (.inl rfl) (by decide) (by decide) rfl) (pad_cons (pd_var (i := 1) rfl (.inl rfl) (by decide) (by decide) rfl) pad_nil rfl) rfl) rfl (by decide) rfl rfl (dCons_len (dCons_len dNil_len))) rfl (.inl rfl) rfl)
    (pssd_cons (psd_if (ptd_cmp (cs_ne rfl hr.units) rfl (poOf (pd_sub (po_var (i := 0) rfl (.inl rfl) (by decide) (by decide)) (poOf (pd_len rfl rfl rfl m_len (po_var (i := 2) rfl (.inl rfl) (by decide) (by decide)))))) (poOf (pd_sub (poOf (pd_sub (po_var (i := 0) rfl (.inl rfl) (by decide) (by decide)) (poOf pd_int))) (poOf (pd_len rfl rfl rfl m_len (po_var (i := 1) rfl (.inl rfl) (by decide) (by decide)))))) (nomark _))
    (pssd_one (psd_ret pd_int))
    pssd_nil)
    (pssd_cons (psd_set (i := 3) nd rfl (.inl rfl) pd_int rfl (.inl rfl) rfl)
    (pssd_cons (psd_for (passes_of rfl) rfl (pid_rng2 rfl m_range (poOf pd_int) (poOf (pd_sub (po_var (i := 0) rfl (.inl rfl) (by decide) (by decide)) (poOf (pd_len rfl rfl rfl m_len (po_var (i := 1) rfl (.inl rfl) (by decide) (by decide)))))) rfl rfl) (pgd_name (i := 4) nd rfl (.inl rfl) (.inl rfl)) (notM rfl)
    (pssd_one (psd_imul (i := 3) nd rfl (.inl rfl) (po_var (i := 4) rfl (.inl rfl) (by decide) (by decide)) (.inl rfl))) (fun _ => rfl))
    (pssd_cons (psd_for (passes_of rfl) rfl (pid_seqF (pd_var (i := 2) rfl (.inl rfl) (by decide) (by decide) rfl)) (pgd_name (i := 5) nd rfl (.inl rfl) (.inl rfl)) (notM rfl)
    (pssd_cons (psd_set (i := 6) nd rfl (.inl rfl) pd_int rfl (.inl rfl) rfl)
    (pssd_cons (psd_for (passes_of rfl) rfl (pid_rng2 rfl m_range (poOf pd_int) (poOf (pd_len rfl rfl rfl m_len (po_var (i := 5) rfl (.inl rfl) (by decide) (by decide)))) rfl rfl) (pgd_name (i := 4) nd rfl (.inl rfl) (.inl rfl)) (notM rfl)
    (pssd_cons (psd_imul (i := 3) nd rfl (.inl rfl) (poOf (pd_len rfl rfl rfl m_len (po_var (i := 5) rfl (.inl rfl) (by decide) (by decide)))) (.inl rfl))
    (pssd_one (psd_imul (i := 6) nd rfl (.inl rfl) (po_var (i := 4) rfl (.inl rfl) (by decide) (by decide)) (.inl rfl)))) (fun _ => rfl))
    (pssd_one (psd_ifdiv (i := 3) nd rfl (.inl rfl) (po_var (i := 6) rfl (.inl rfl) (by decide) (by decide)) (.inl rfl))))) (fun _ => rfl))
    (pssd_one (psd_ret (pd_var (i := 3) rfl (.inl rfl) (by decide) (by decide) rfl))))))))
abbrev n_count_lists : List Str := ["size"]
abbrev s_count_lists : Stmt := topS 17
def d_count_lists : Df := ⟨s_count_lists, "count_lists", n_count_lists, ["size"], [], b_count_lists⟩
theorem sc_count_lists : FnScope n_count_lists ["size"] (defScope s_count_lists) := ⟨rfl, rfl, rfl, by decide +kernel, rfl, by decide +kernel, by decide +kernel⟩
theorem w_count_lists {P : Program} {w : World} {K : PySem.W.Frag} {mg : Str → Option Value} {base : Heap} {C : Addr} {ec : Nat → Option Value} {c : Cf} {k : Nat} (c_check_size : Callee P w K mg base C ec c k "check_size" 2 1) (c_completions_of : Callee P w K mg base C ec c k "completions_of" 16 2) : BodyOk P w K mg base C ec c k d_count_lists := by
  intro f cdv A outer s H E A0 F0 hr
  have nd : (n_count_lists).Nodup := sc_count_lists.nd
  show PSs (cxOf (L2.CX P w) P w K mg base n_count_lists "count_lists" (defScope s_count_lists) f cdv A outer s H E) (defBody s_count_lists) (tS ⟨K, C, [], fun cls dd _ H' => E cls dd H', c, ec, A0, F0, H⟩ b_count_lists)
  exact (pssd_cons (psd_expr (poOf (pd_callE rfl (takes_of rfl rfl rfl rfl) c_check_size hr rfl (pad_cons (pd_var (i := 0) rfl (.inl rfl) (by decide) (by decide) rfl) pad_nil rfl) rfl (by decide) rfl rfl (dCons_len dNil_len))) rfl)
    (pssd_one (psd_ret (pd_callE rfl (takes_of rfl rfl rfl rfl) c_completions_of hr rfl (pad_cons (pd_var (i := 0) rfl (.inl rfl) (by decide) (by decide) rfl) (pad_cons (pd_tup pad_nil) pad_nil rfl) rfl) rfl (by decide) rfl rfl (dCons_len (dCons_len dNil_len))))))
abbrev n_count_completions : List Str := ["size", "row"]
abbrev s_count_completions : Stmt := topS 18
def d_count_completions : Df := ⟨s_count_completions, "count_completions", n_count_completions, ["size", "row"], [], b_count_completions⟩
theorem sc_count_completions : FnScope n_count_completions ["size", "row"] (defScope s_count_completions) := ⟨rfl, rfl, rfl, by decide +kernel, rfl, by decide +kernel, by decide +kernel⟩
theorem w_count_completions {P : Program} {w : World} {K : PySem.W.Frag} {mg : Str → Option Value} {base : Heap} {C : Addr} {ec : Nat → Option Value} {c : Cf} {k : Nat} (c_check_part : Callee P w K mg base C ec c k "check_part" 6 2) (c_completions_of : Callee P w K mg base C ec c k "completions_of" 16 2) : BodyOk P w K mg base C ec c k d_count_completions := by
  intro f cdv A outer s H E A0 F0 hr
  have nd : (n_count_completions).Nodup := sc_count_completions.nd
  show PSs (cxOf (L2.CX P w) P w K mg base n_count_completions "count_completions" (defScope s_count_completions) f cdv A outer s H E) (defBody s_count_completions) (tS ⟨K, C, [], fun cls dd _ H' => E cls dd H', c, ec, A0, F0, H⟩ b_count_completions)
  exact (pssd_cons (psd_expr (poOf (pd_callE rfl (takes_of rfl rfl rfl rfl) c_check_part hr rfl (pad_cons (pd_var (i := 0) rfl (.inl rfl) (by decide) (by decide) rfl) (pad_cons (pd_var (i := 1) rfl (.inl rfl) (by decide) (by decide) rfl) pad_nil rfl) rfl) rfl (by decide) rfl rfl (dCons_len (dCons_len dNil_len)))) rfl)
    (pssd_one (psd_ret (pd_callE rfl (takes_of rfl rfl rfl rfl) c_completions_of hr rfl (pad_cons (pd_var (i := 0) rfl (.inl rfl) (by decide) (by decide) rfl) (pad_cons (pd_var (i := 1) rfl (.inl rfl) (by decide) (by decide) rfl) pad_nil rfl) rfl) rfl (by decide) rfl rfl (dCons_len (dCons_len dNil_len))))))
abbrev n_next_exchanges : List Str := ["size", "row", "one"]
abbrev s_next_exchanges : Stmt := topS 19
def d_next_exchanges : Df := ⟨s_next_exchanges, "next_exchanges", n_next_exchanges, ["size", "row"], [], b_next_exchanges⟩
theorem sc_next_exchanges : FnScope n_next_exchanges ["size", "row"] (defScope s_next_exchanges) := ⟨rfl, rfl, rfl, by decide +kernel, rfl, by decide +kernel, by decide +kernel⟩
theorem w_next_exchanges {P : Program} {w : World} {K : PySem.W.Frag} {mg : Str → Option Value} {base : Heap} {C : Addr} {ec : Nat → Option Value} {c : Cf} {k : Nat} (c_check_part : Callee P w K mg base C ec c k "check_part" 6 2) (m_len : mg "len" = none) (c_every_exchange : Callee P w K mg base C ec c k "every_exchange" 14 1) (c_completions_of : Callee P w K mg base C ec c k "completions_of" 16 2) : BodyOk P w K mg base C ec c k d_next_exchanges := by
  intro f cdv A outer s H E A0 F0 hr
  have nd : (n_next_exchanges).Nodup := sc_next_exchanges.nd
  show PSs (cxOf (L2.CX P w) P w K mg base n_next_exchanges "next_exchanges" (defScope s_next_exchanges) f cdv A outer s H E) (defBody s_next_exchanges) (tS ⟨K, C, [], fun cls dd _ H' => E cls dd H', c, ec, A0, F0, H⟩ b_next_exchanges)
  exact (pssd_cons (psd_expr (poOf (pd_callE rfl (takes_of rfl rfl rfl rfl) c_check_part hr rfl (pad_cons (pd_var (i := 0) rfl (.inr (.inl rfl)) (by decide) (by decide) rfl) (pad_cons (pd_var (i := 1) rfl (.inr (.inl rfl)) (by decide) (by decide) rfl) pad_nil rfl) rfl) rfl (by decide) rfl rfl (dCons_len (dCons_len dNil_len)))) rfl)
    (pssd_cons (psd_if (ptd_cmp (cs_eq rfl hr.units) rfl (poOf (pd_len rfl rfl rfl m_len (po_var (i := 1) rfl (.inr (.inl rfl)) (by decide) (by decide)))) (poOf (pd_sub (po_var (i := 0) rfl (.inr (.inl rfl)) (by decide) (by decide)) (poOf pd_int))) (nomark _))
    (pssd_one (psd_ret (pd_lst pad_nil)))
    pssd_nil)
    (pssd_one (psd_ret (pd_comp (own := [("one", 2)]) rfl nd (pid_seqS (poOf (pd_callE rfl (takes_of rfl rfl rfl rfl) c_every_exchange hr rfl (pad_cons (pd_var (i := 0) rfl (.inr (.inl rfl)) (by decide) (by decide) rfl) pad_nil rfl) rfl (by decide) rfl rfl (dCons_len dNil_len)))) (blkOk_by rfl) (fun _ _ _ _ _ => (pgd_name (i := 2) nd rfl (.inl rfl) (.inr rfl))) (fun _ _ _ _ _ => (pts_cond (.inr ⟨_, _, rfl, rfl, (ptd_cmp cs_gt rfl (poOf (pd_callE rfl takes_none5 c_completions_of hr rfl (pad_cons (pd_var (i := 0) rfl (.inr (.inl rfl)) (by decide) (by decide) rfl) (pad_cons (pd_add (po_var (i := 1) rfl (.inr (.inl rfl)) (by decide) (by decide)) (poOf (pd_tup (pad_cons (pd_var (i := 2) rfl (.inl rfl) (by decide) (by decide) rfl) pad_nil rfl)))) pad_nil rfl) rfl) rfl (by decide) rfl rfl (dCons_len (dCons_len dNil_len)))) (poOf pd_int) (nomark _))⟩))) (fun _ _ _ _ _ => (pd_var (i := 2) rfl (.inl rfl) (by decide) (by decide) rfl)) (fun _ => rfl) (inL rfl))))))
abbrev n_lists_from : List Str := ["size", "row", "result", "one"]
abbrev s_lists_from : Stmt := topS 20
def d_lists_from : Df := ⟨s_lists_from, "lists_from", n_lists_from, ["size", "row"], [2], b_lists_from⟩
theorem sc_lists_from : FnScope n_lists_from ["size", "row"] (defScope s_lists_from) := ⟨rfl, rfl, rfl, by decide +kernel, rfl, by decide +kernel, by decide +kernel⟩
theorem w_lists_from {P : Program} {w : World} {K : PySem.W.Frag} {mg : Str → Option Value} {base : Heap} {C : Addr} {ec : Nat → Option Value} {c : Cf} {k : Nat} (m_len : mg "len" = none) (c_completions_of : Callee P w K mg base C ec c k "completions_of" 16 2) (c_every_exchange : Callee P w K mg base C ec c k "every_exchange" 14 1) (c_lists_from : Callee P w K mg base C ec c k "lists_from" 65 2) : BodyOk P w K mg base C ec c k d_lists_from := by
  intro f cdv A outer s H E A0 F0 hr
  have nd : (n_lists_from).Nodup := sc_lists_from.nd
  show PSs (cxOf (L2.CX P w) P w K mg base n_lists_from "lists_from" (defScope s_lists_from) f cdv A outer s H E) (defBody s_lists_from) (tS ⟨K, C, [2], fun cls dd _ H' => E cls dd H', c, ec, A0, F0, H⟩ b_lists_from)
  exact (pssd_cons (psd_if (ptd_cmp (cs_eq rfl hr.units) rfl (poOf (pd_len rfl rfl rfl m_len (po_var (i := 1) rfl (.inl rfl) (by decide) (by decide)))) (poOf (pd_sub (po_var (i := 0) rfl (.inl rfl) (by decide) (by decide)) (poOf pd_int))) (nomark _))
    (pssd_one (psd_ret (pd_ite (ptd_cmp cs_gt rfl (poOf (pd_callE rfl (takes_of rfl rfl rfl rfl) c_completions_of hr rfl (pad_cons (pd_var (i := 0) rfl (.inl rfl) (by decide) (by decide) rfl) (pad_cons (pd_var (i := 1) rfl (.inl rfl) (by decide) (by decide) rfl) pad_nil rfl) rfl) rfl (by decide) rfl rfl (dCons_len (dCons_len dNil_len)))) (poOf pd_int) (nomark _)) (pd_lst (pad_cons (pd_var (i := 1) rfl (.inl rfl) (by decide) (by decide) rfl) pad_nil rfl)) (pd_lst pad_nil))))
    pssd_nil)
    (pssd_cons (psd_setF (i := 2) nd rfl (.inl rfl) (pf_lst pad_nil) rfl (.inl rfl) rfl)
    (pssd_cons (psd_for (passes_of rfl) rfl (pid_seqF (pd_callE rfl (takes_of rfl rfl rfl rfl) c_every_exchange hr rfl (pad_cons (pd_var (i := 0) rfl (.inl rfl) (by decide) (by decide) rfl) pad_nil rfl) rfl (by decide) rfl rfl (dCons_len dNil_len))) (pgd_name (i := 3) nd rfl (.inl rfl) (.inl rfl)) (notM rfl)
    (pssd_one (psd_if (ptd_cmp cs_gt rfl (poOf (pd_callE rfl (takes_of rfl rfl rfl rfl) c_completions_of hr rfl (pad_cons (pd_var (i := 0) rfl (.inl rfl) (by decide) (by decide) rfl) (pad_cons (pd_add (po_var (i := 1) rfl (.inl rfl) (by decide) (by decide)) (poOf (pd_tup (pad_cons (pd_var (i := 3) rfl (.inl rfl) (by decide) (by decide) rfl) pad_nil rfl)))) pad_nil rfl) rfl) rfl (by decide) rfl rfl (dCons_len (dCons_len dNil_len)))) (poOf pd_int) (nomark _))
    (pssd_one (psd_extendE (i := 2) rfl (.inl rfl) (by decide) (by decide) rfl (poOf (pd_callE rfl (takes_of rfl rfl rfl rfl) c_lists_from hr rfl (pad_cons (pd_var (i := 0) rfl (.inl rfl) (by decide) (by decide) rfl) (pad_cons (pd_add (po_var (i := 1) rfl (.inl rfl) (by decide) (by decide)) (poOf (pd_tup (pad_cons (pd_var (i := 3) rfl (.inl rfl) (by decide) (by decide) rfl) pad_nil rfl)))) pad_nil rfl) rfl) rfl (by decide) rfl rfl (dCons_len (dCons_len dNil_len)))) rfl rfl rfl rfl))
    pssd_nil)) (fun _ => rfl))
    (pssd_one (psd_retV (i := 2) rfl (.inl rfl) (by decide) (by decide))))))
abbrev n_all_lists : List Str := ["size"]
abbrev s_all_lists : Stmt := topS 21
def d_all_lists : Df := ⟨s_all_lists, "all_lists", n_all_lists, ["size"], [], b_all_lists⟩
theorem sc_all_lists : FnScope n_all_lists ["size"] (defScope s_all_lists) := ⟨rfl, rfl, rfl, by decide +kernel, rfl, by decide +kernel, by decide +kernel⟩
theorem w_all_lists {P : Program} {w : World} {K : PySem.W.Frag} {mg : Str → Option Value} {base : Heap} {C : Addr} {ec : Nat → Option Value} {c : Cf} {k : Nat} (c_check_size : Callee P w K mg base C ec c k "check_size" 2 1) (c_lists_from : Callee P w K mg base C ec c k "lists_from" 65 2) : BodyOk P w K mg base C ec c k d_all_lists := by
  intro f cdv A outer s H E A0 F0 hr
  have nd : (n_all_lists).Nodup := sc_all_lists.nd
  show PSs (cxOf (L2.CX P w) P w K mg base n_all_lists "all_lists" (defScope s_all_lists) f cdv A outer s H E) (defBody s_all_lists) (tS ⟨K, C, [], fun cls dd _ H' => E cls dd H', c, ec, A0, F0, H⟩ b_all_lists)
  exact (pssd_cons (psd_expr (poOf (pd_callE rfl (takes_of rfl rfl rfl rfl) c_check_size hr rfl (pad_cons (pd_var (i := 0) rfl (.inl rfl) (by decide) (by decide) rfl) pad_nil rfl) rfl (by decide) rfl rfl (dCons_len dNil_len))) rfl)
    (pssd_one (psd_ret (pd_callE rfl (takes_of rfl rfl rfl rfl) c_lists_from hr rfl (pad_cons (pd_var (i := 0) rfl (.inl rfl) (by decide) (by decide) rfl) (pad_cons (pd_tup pad_nil) pad_nil rfl) rfl) rfl (by decide) rfl rfl (dCons_len (dCons_len dNil_len))))))
abbrev n__law_cell : List Str := ["script", "k"]
abbrev s__law_cell : Stmt := topS 23
def d__law_cell : Df := ⟨s__law_cell, "_law_cell", n__law_cell, ["script", "k"], [], b__law_cell⟩
theorem sc__law_cell : FnScope n__law_cell ["script", "k"] (defScope s__law_cell) := ⟨rfl, rfl, rfl, by decide +kernel, rfl, by decide +kernel, by decide +kernel⟩
theorem w__law_cell {P : Program} {w : World} {K : PySem.W.Frag} {mg : Str → Option Value} {base : Heap} {C : Addr} {ec : Nat → Option Value} {c : Cf} {k : Nat} (m_len : mg "len" = none) : BodyOk P w K mg base C ec c k d__law_cell := by
  intro f cdv A outer s H E A0 F0 hr
  have nd : (n__law_cell).Nodup := sc__law_cell.nd
  show PSs (cxOf (L2.CX P w) P w K mg base n__law_cell "_law_cell" (defScope s__law_cell) f cdv A outer s H E) (defBody s__law_cell) (tS ⟨K, C, [], fun cls dd _ H' => E cls dd H', c, ec, A0, F0, H⟩ b__law_cell)
  exact (pssd_cons (psd_if (ptd_cmp cs_lt rfl (po_var (i := 1) rfl (.inl rfl) (by decide) (by decide)) (poOf (pd_len rfl rfl rfl m_len (po_var (i := 0) rfl (.inl rfl) (by decide) (by decide)))) (nomark _))
    (pssd_one (psd_ret (pd_ix rfl (po_var (i := 0) rfl (.inl rfl) (by decide) (by decide)) (po_var (i := 1) rfl (.inl rfl) (by decide) (by decide)) (fun _ _ => rfl))))
    pssd_nil)
    (pssd_one (psd_ret pd_int)))
abbrev n__law_row : List Str := ["script", "at", "cell", "found", "time"]
abbrev s__law_row : Stmt := topS 24
def d__law_row : Df := ⟨s__law_row, "_law_row", n__law_row, ["script", "at"], [3], b__law_row⟩
theorem sc__law_row : FnScope n__law_row ["script", "at"] (defScope s__law_row) := ⟨rfl, rfl, rfl, by decide +kernel, rfl, by decide +kernel, by decide +kernel⟩
theorem w__law_row {P : Program} {w : World} {K : PySem.W.Frag} {mg : Str → Option Value} {base : Heap} {C : Addr} {ec : Nat → Option Value} {c : Cf} {k : Nat} (c__law_cell : Callee P w K mg base C ec c k "_law_cell" 28 2) (m_range : mg "range" = none) : BodyOk P w K mg base C ec c k d__law_row := by
  intro f cdv A outer s H E A0 F0 hr
  have nd : (n__law_row).Nodup := sc__law_row.nd
  show PSs (cxOf (L2.CX P w) P w K mg base n__law_row "_law_row" (defScope s__law_row) f cdv A outer s H E) (defBody s__law_row) (tS ⟨K, C, [3], fun cls dd _ H' => E cls dd H', c, ec, A0, F0, H⟩ b__law_row)
  exact (pssd_cons (psd_set (i := 2) nd rfl (.inl rfl) (pd_callE rfl (takes_of rfl rfl rfl rfl) c__law_cell hr rfl (pad_cons (pd_var (i := 0) rfl (.inl rfl) (by decide) (by decide) rfl) (pad_cons (pd_var (i := 1) rfl (.inl rfl) (by decide) (by decide) rfl) pad_nil rfl) rfl) rfl (by decide) rfl rfl (dCons_len (dCons_len dNil_len))) rfl (.inl rfl) rfl)
    (pssd_cons (psd_setF (i := 3) nd rfl (.inl rfl) (pf_lst pad_nil) rfl (.inl rfl) rfl)
    (pssd_cons (psd_for (passes_of rfl) rfl (pid_rng1 rfl m_range (poOf pd_int) rfl) (pgd_name (i := 4) nd rfl (.inl rfl) (.inl rfl)) (notM rfl)
    (pssd_one (psd_if (ptd_cmp cs_lt rfl (poOf (pd_callE rfl (takes_of rfl rfl rfl rfl) c__law_cell hr rfl (pad_cons (pd_var (i := 0) rfl (.inl rfl) (by decide) (by decide) rfl) (pad_cons (pd_var (i := 1) rfl (.inl rfl) (by decide) (by decide) rfl) pad_nil rfl) rfl) rfl (by decide) rfl rfl (dCons_len (dCons_len dNil_len)))) (poOf (pd_pow (poOf pd_int) (poOf pd_int))) (nomark _))
    (pssd_cons (psd_set (i := 2) nd rfl (.inl rfl) (pd_mod (poOf (pd_add (poOf (pd_add (poOf (pd_add (poOf (pd_mul (po_var (i := 2) rfl (.inl rfl) (by decide) (by decide)) (poOf pd_int))) (poOf (pd_mul (poOf pd_int) (po_var (i := 4) rfl (.inl rfl) (by decide) (by decide)))))) (poOf pd_int))) (poOf (pd_callE rfl (takes_of rfl rfl rfl rfl) c__law_cell hr rfl (pad_cons (pd_var (i := 0) rfl (.inl rfl) (by decide) (by decide) rfl) (pad_cons (pd_mod (poOf (pd_add (poOf (pd_add (po_var (i := 1) rfl (.inl rfl) (by decide) (by decide)) (poOf pd_int))) (po_var (i := 4) rfl (.inl rfl) (by decide) (by decide)))) (poOf pd_int)) pad_nil rfl) rfl) rfl (by decide) rfl rfl (dCons_len (dCons_len dNil_len)))))) (poOf pd_int)) rfl (.inl rfl) rfl)
    (pssd_one (psd_appendE (i := 3) rfl (.inl rfl) (by decide) (by decide) rfl (pd_mod (poOf (pd_fdiv (po_var (i := 2) rfl (.inl rfl) (by decide) (by decide)) (poOf pd_int))) (poOf pd_int)) rfl rfl rfl rfl)))
    (pssd_cons (psd_appendE (i := 3) rfl (.inl rfl) (by decide) (by decide) rfl (pd_mod (po_var (i := 2) rfl (.inl rfl) (by decide) (by decide)) (poOf pd_int)) rfl rfl rfl rfl)
    (pssd_one (psd_set (i := 2) nd rfl (.inl rfl) (pd_fdiv (po_var (i := 2) rfl (.inl rfl) (by decide) (by decide)) (poOf pd_int)) rfl (.inl rfl) rfl))))) (fun _ => rfl))
    (pssd_one (psd_retV (i := 3) rfl (.inl rfl) (by decide) (by decide))))))
abbrev n__law_pairs : List Str := ["size", "found", "one", "other"]
abbrev s__law_pairs : Stmt := topS 25
def d__law_pairs : Df := ⟨s__law_pairs, "_law_pairs", n__law_pairs, ["size"], [], b__law_pairs⟩
theorem sc__law_pairs : FnScope n__law_pairs ["size"] (defScope s__law_pairs) := ⟨rfl, rfl, rfl, by decide +kernel, rfl, by decide +kernel, by decide +kernel⟩
theorem w__law_pairs {P : Program} {w : World} {K : PySem.W.Frag} {mg : Str → Option Value} {base : Heap} {C : Addr} {ec : Nat → Option Value} {c : Cf} {k : Nat} (m_range : mg "range" = none) : BodyOk P w K mg base C ec c k d__law_pairs := by
  intro f cdv A outer s H E A0 F0 hr
  have nd : (n__law_pairs).Nodup := sc__law_pairs.nd
  show PSs (cxOf (L2.CX P w) P w K mg base n__law_pairs "_law_pairs" (defScope s__law_pairs) f cdv A outer s H E) (defBody s__law_pairs) (tS ⟨K, C, [], fun cls dd _ H' => E cls dd H', c, ec, A0, F0, H⟩ b__law_pairs)
  exact (pssd_cons (psd_set (i := 1) nd rfl (.inl rfl) (pd_lst pad_nil) rfl (.inl rfl) rfl)
    (pssd_cons (psd_for (passes_of rfl) rfl (pid_rng1 rfl m_range (po_var (i := 0) rfl (.inl rfl) (by decide) (by decide)) rfl) (pgd_name (i := 2) nd rfl (.inr rfl) (.inl rfl)) (notM rfl)
    (pssd_one (psd_set (i := 1) nd rfl (.inl rfl) (pd_add (po_var (i := 1) rfl (.inl rfl) (by decide) (by decide)) (poOf (pd_comp (own := [("other", 3)]) rfl nd (pid_rng2 rfl m_range (poOf (pd_add (po_var (i := 2) rfl (.inr (.inl rfl)) (by decide) (by decide)) (poOf pd_int))) (po_var (i := 0) rfl (.inl rfl) (by decide) (by decide)) rfl rfl) (blkOk_by rfl) (fun _ _ _ _ _ => (pgd_name (i := 3) nd rfl (.inl rfl) (.inr rfl))) (fun _ _ _ _ _ => (pts_cond (.inl ⟨rfl, rfl⟩))) (fun _ _ _ _ _ => (pd_tup (pad_cons (pd_var (i := 2) rfl (.inr (.inl rfl)) (by decide) (by decide) rfl) (pad_cons (pd_var (i := 3) rfl (.inl rfl) (by decide) (by decide) rfl) pad_nil rfl) rfl))) (fun _ => rfl) (inL rfl)))) rfl (.inl rfl) rfl)) (fun _ => rfl))
    (pssd_one (psd_ret (pd_var (i := 1) rfl (.inl rfl) (by decide) (by decide) rfl)))))
abbrev n__law_to : List Str := ["one", "place"]
abbrev s__law_to : Stmt := topS 26
def d__law_to : Df := ⟨s__law_to, "_law_to", n__law_to, ["one", "place"], [], b__law_to⟩
theorem sc__law_to : FnScope n__law_to ["one", "place"] (defScope s__law_to) := ⟨rfl, rfl, rfl, by decide +kernel, rfl, by decide +kernel, by decide +kernel⟩
theorem w__law_to {P : Program} {w : World} {K : PySem.W.Frag} {mg : Str → Option Value} {base : Heap} {C : Addr} {ec : Nat → Option Value} {c : Cf} {k : Nat}  : BodyOk P w K mg base C ec c k d__law_to := by
  intro f cdv A outer s H E A0 F0 hr
  have nd : (n__law_to).Nodup := sc__law_to.nd
  show PSs (cxOf (L2.CX P w) P w K mg base n__law_to "_law_to" (defScope s__law_to) f cdv A outer s H E) (defBody s__law_to) (tS ⟨K, C, [], fun cls dd _ H' => E cls dd H', c, ec, A0, F0, H⟩ b__law_to)
  exact (pssd_cons (psd_if (ptd_cmp (cs_eq rfl hr.units) rfl (po_var (i := 1) rfl (.inl rfl) (by decide) (by decide)) (poOf (pd_ix rfl (po_var (i := 0) rfl (.inl rfl) (by decide) (by decide)) (poOf pd_int) (fun _ _ => rfl))) (nomark _))
    (pssd_one (psd_ret (pd_ix rfl (po_var (i := 0) rfl (.inl rfl) (by decide) (by decide)) (poOf pd_int) (fun _ _ => rfl))))
    pssd_nil)
    (pssd_one (psd_ret (pd_ite (ptd_cmp (cs_eq rfl hr.units) rfl (po_var (i := 1) rfl (.inl rfl) (by decide) (by decide)) (poOf (pd_ix rfl (po_var (i := 0) rfl (.inl rfl) (by decide) (by decide)) (poOf pd_int) (fun _ _ => rfl))) (nomark _)) (pd_ix rfl (po_var (i := 0) rfl (.inl rfl) (by decide) (by decide)) (poOf pd_int) (fun _ _ => rfl)) (pd_var (i := 1) rfl (.inl rfl) (by decide) (by decide) rfl)))))
abbrev n__law_result : List Str := ["size", "row", "found", "one", "place"]
abbrev s__law_result : Stmt := topS 27
def d__law_result : Df := ⟨s__law_result, "_law_result", n__law_result, ["size", "row"], [], b__law_result⟩
theorem sc__law_result : FnScope n__law_result ["size", "row"] (defScope s__law_result) := ⟨rfl, rfl, rfl, by decide +kernel, rfl, by decide +kernel, by decide +kernel⟩
theorem w__law_result {P : Program} {w : World} {K : PySem.W.Frag} {mg : Str → Option Value} {base : Heap} {C : Addr} {ec : Nat → Option Value} {c : Cf} {k : Nat} (m_list : mg "list" = none) (m_range : mg "range" = none) (c__law_to : Callee P w K mg base C ec c k "_law_to" 31 2) (m_tuple : mg "tuple" = none) : BodyOk P w K mg base C ec c k d__law_result := by
  intro f cdv A outer s H E A0 F0 hr
  have nd : (n__law_result).Nodup := sc__law_result.nd
  show PSs (cxOf (L2.CX P w) P w K mg base n__law_result "_law_result" (defScope s__law_result) f cdv A outer s H E) (defBody s__law_result) (tS ⟨K, C, [], fun cls dd _ H' => E cls dd H', c, ec, A0, F0, H⟩ b__law_result)
  exact (pssd_cons (psd_set (i := 2) nd rfl (.inl rfl) (pd_lstRng1 rfl rfl m_range rfl m_list (po_var (i := 0) rfl (.inl rfl) (by decide) (by decide)) rfl) rfl (.inl rfl) rfl)
    (pssd_cons (psd_for (passes_of rfl) rfl (pid_seqF (pd_var (i := 1) rfl (.inl rfl) (by decide) (by decide) rfl)) (pgd_name (i := 3) nd rfl (.inr rfl) (.inl rfl)) (notM rfl)
    (pssd_one (psd_setLcE (own := [("place", 4)]) rfl nd (pid_seqS (po_var (i := 2) rfl (.inl rfl) (by decide) (by decide))) (blkOk_by rfl) (fun _ _ _ _ _ => (pgd_name (i := 4) nd rfl (.inl rfl) (.inr rfl))) (fun _ _ _ _ _ => (pts_cond (.inl ⟨rfl, rfl⟩))) (fun _ _ _ _ _ => (pd_callE rfl takes_none5 c__law_to hr rfl (pad_cons (pd_var (i := 3) rfl (.inr (.inl rfl)) (by decide) (by decide) rfl) (pad_cons (pd_var (i := 4) rfl (.inl rfl) (by decide) (by decide) rfl) pad_nil rfl) rfl) rfl (by decide) rfl rfl (dCons_len (dCons_len dNil_len)))) (fun _ => rfl) (inL rfl) rfl rfl rfl)) (fun _ => rfl))
    (pssd_one (psd_ret (pd_tuple rfl rfl m_tuple (po_var (i := 2) rfl (.inl rfl) (by decide) (by decide)))))))
abbrev n__law_is_round : List Str := ["size", "row", "place"]
abbrev s__law_is_round : Stmt := topS 28
def d__law_is_round : Df := ⟨s__law_is_round, "_law_is_round", n__law_is_round, ["size", "row"], [], b__law_is_round⟩
theorem sc__law_is_round : FnScope n__law_is_round ["size", "row"] (defScope s__law_is_round) := ⟨rfl, rfl, rfl, by decide +kernel, rfl, by decide +kernel, by decide +kernel⟩
theorem w__law_is_round {P : Program} {w : World} {K : PySem.W.Frag} {mg : Str → Option Value} {base : Heap} {C : Addr} {ec : Nat → Option Value} {c : Cf} {k : Nat} (c__law_result : Callee P w K mg base C ec c k "_law_result" 37 2) (m_tuple : mg "tuple" = none) (m_range : mg "range" = none) : BodyOk P w K mg base C ec c k d__law_is_round := by
  intro f cdv A outer s H E A0 F0 hr
  have nd : (n__law_is_round).Nodup := sc__law_is_round.nd
  show PSs (cxOf (L2.CX P w) P w K mg base n__law_is_round "_law_is_round" (defScope s__law_is_round) f cdv A outer s H E) (defBody s__law_is_round) (tS ⟨K, C, [], fun cls dd _ H' => E cls dd H', c, ec, A0, F0, H⟩ b__law_is_round)
  exact (pssd_one (psd_ret (pd_cmp (cs_eq rfl hr.units) (poOf (pd_callE rfl (takes_of rfl rfl rfl rfl) c__law_result hr rfl (pad_cons (pd_var (i := 0) rfl (.inr (.inl rfl)) (by decide) (by decide) rfl) (pad_cons (pd_var (i := 1) rfl (.inl rfl) (by decide) (by decide) rfl) pad_nil rfl) rfl) rfl (by decide) rfl rfl (dCons_len (dCons_len dNil_len)))) (poOf (pd_tuple rfl rfl m_tuple (poOf (pd_comp (own := [("place", 2)]) rfl nd (pid_rng1 rfl m_range (po_var (i := 0) rfl (.inr (.inl rfl)) (by decide) (by decide)) rfl) (blkOk_by rfl) (fun _ _ _ _ _ => (pgd_name (i := 2) nd rfl (.inl rfl) (.inr rfl))) (fun _ _ _ _ _ => (pts_cond (.inl ⟨rfl, rfl⟩))) (fun _ _ _ _ _ => (pd_mod (poOf (pd_add (po_var (i := 2) rfl (.inl rfl) (by decide) (by decide)) (poOf pd_int))) (po_var (i := 0) rfl (.inr (.inl rfl)) (by decide) (by decide)))) (fun _ => rfl) (inL rfl))))) (nomark _))))
abbrev n__law_round : List Str := ["script", "at", "size", "draws", "row", "time", "number", "one", "other", "place"]
abbrev s__law_round : Stmt := topS 29
def d__law_round : Df := ⟨s__law_round, "_law_round", n__law_round, ["script", "at", "size"], [4], b__law_round⟩
theorem sc__law_round : FnScope n__law_round ["script", "at", "size"] (defScope s__law_round) := ⟨rfl, rfl, rfl, by decide +kernel, rfl, by decide +kernel, by decide +kernel⟩
theorem w__law_round {P : Program} {w : World} {K : PySem.W.Frag} {mg : Str → Option Value} {base : Heap} {C : Addr} {ec : Nat → Option Value} {c : Cf} {k : Nat} (c__law_row : Callee P w K mg base C ec c k "_law_row" 29 2) (m_range : mg "range" = none) (m_tuple : mg "tuple" = none) (m_sorted : mg "sorted" = none) (c__law_to : Callee P w K mg base C ec c k "_law_to" 31 2) : BodyOk P w K mg base C ec c k d__law_round := by
  intro f cdv A outer s H E A0 F0 hr
  have nd : (n__law_round).Nodup := sc__law_round.nd
  show PSs (cxOf (L2.CX P w) P w K mg base n__law_round "_law_round" (defScope s__law_round) f cdv A outer s H E) (defBody s__law_round) (tS ⟨K, C, [4], fun cls dd _ H' => E cls dd H', c, ec, A0, F0, H⟩ b__law_round)
  exact (pssd_cons (psd_set (i := 3) nd rfl (.inl rfl) (pd_callE rfl (takes_of rfl rfl rfl rfl) c__law_row hr rfl (pad_cons (pd_var (i := 0) rfl (.inl rfl) (by decide) (by decide) rfl) (pad_cons (pd_var (i := 1) rfl (.inl rfl) (by decide) (by decide) rfl) pad_nil rfl) rfl) rfl (by decide) rfl rfl (dCons_len (dCons_len dNil_len))) rfl (.inl rfl) rfl)
    (pssd_cons (psd_setLcE (own := [("place", 9)]) rfl nd (pid_rng2 rfl m_range (poOf pd_int) (po_var (i := 2) rfl (.inl rfl) (by decide) (by decide)) rfl rfl) (blkOk_by rfl) (fun _ _ _ _ _ => (pgd_name (i := 9) nd rfl (.inl rfl) (.inr rfl))) (fun _ _ _ _ _ => (pts_cond (.inl ⟨rfl, rfl⟩))) (fun _ _ _ _ _ => (pd_tup (pad_cons pd_int (pad_cons (pd_var (i := 9) rfl (.inl rfl) (by decide) (by decide) rfl) pad_nil rfl) rfl))) (fun _ => rfl) (inL rfl) rfl rfl rfl)
    (pssd_cons (psd_for (passes_of rfl) rfl (pid_rng1 rfl m_range (poOf (pd_ite (ptd_cmp cs_gt rfl (po_var (i := 2) rfl (.inl rfl) (by decide) (by decide)) (poOf pd_int) (nomark _)) pd_int pd_int)) rfl) (pgd_name (i := 5) nd rfl (.inl rfl) (.inl rfl)) (notM rfl)
    (pssd_cons (psd_set (i := 6) nd rfl (.inl rfl) (pd_mod (poOf (pd_ix rfl (po_var (i := 3) rfl (.inl rfl) (by decide) (by decide)) (po_var (i := 5) rfl (.inl rfl) (by decide) (by decide)) (fun _ _ => rfl))) (poOf (pd_sub (po_var (i := 2) rfl (.inl rfl) (by decide) (by decide)) (poOf pd_int)))) rfl (.inl rfl) rfl)
    (pssd_cons (psd_asgT (pd_tup (pad_cons (pd_ix rfl (po_var (i := 4) rfl (.inl rfl) (by decide) (by decide)) (po_var (i := 6) rfl (.inl rfl) (by decide) (by decide)) (fun _ _ => rfl)) (pad_cons (pd_ix rfl (po_var (i := 4) rfl (.inl rfl) (by decide) (by decide)) (poOf (pd_add (po_var (i := 6) rfl (.inl rfl) (by decide) (by decide)) (poOf pd_int))) (fun _ _ => rfl)) pad_nil rfl) rfl)) (pgd_tup rfl (pgsd_cons (pgd_name (i := 7) nd rfl (.inr rfl) (.inl rfl)) (pgsd_cons (pgd_name (i := 8) nd rfl (.inr rfl) (.inl rfl)) pgsd_nil rfl) rfl) rfl rfl rfl) (notM rfl) rfl rfl rfl)
    (pssd_one (psd_if (ptd_cmp (cs_eq rfl hr.units) rfl (poOf (pd_mod (poOf (pd_ix rfl (po_var (i := 3) rfl (.inl rfl) (by decide) (by decide)) (poOf (pd_add (poOf pd_int) (po_var (i := 5) rfl (.inl rfl) (by decide) (by decide)))) (fun _ _ => rfl))) (poOf pd_int))) (poOf pd_int) (nomark _))
    (pssd_cons (psd_setIx (i := 4) rfl (.inl rfl) (by decide) (by decide) rfl (pd_var (i := 8) rfl (.inr (.inl rfl)) (by decide) (by decide) rfl) (po_var (i := 6) rfl (.inl rfl) (by decide) (by decide)) (fun _ => rfl) rfl rfl rfl)
    (pssd_one (psd_setIx (i := 4) rfl (.inl rfl) (by decide) (by decide) rfl (pd_tuple rfl rfl m_tuple (poOf (pd_sorted rfl hr.units rfl m_sorted (poOf (pd_comp (own := [("place", 9)]) rfl nd (pid_seqS (po_var (i := 7) rfl (.inr (.inl rfl)) (by decide) (by decide))) (blkOk_by rfl) (fun _ _ _ _ _ => (pgd_name (i := 9) nd rfl (.inl rfl) (.inr rfl))) (fun _ _ _ _ _ => (pts_cond (.inl ⟨rfl, rfl⟩))) (fun _ _ _ _ _ => (pd_callE rfl takes_none5 c__law_to hr rfl (pad_cons (pd_var (i := 8) rfl (.inr (.inl rfl)) (by decide) (by decide) rfl) (pad_cons (pd_var (i := 9) rfl (.inl rfl) (by decide) (by decide) rfl) pad_nil rfl) rfl) rfl (by decide) rfl rfl (dCons_len (dCons_len dNil_len)))) (fun _ => rfl) (inL rfl)))))) (poOf (pd_add (po_var (i := 6) rfl (.inl rfl) (by decide) (by decide)) (poOf pd_int))) (fun _ => rfl) rfl rfl rfl)))
    (pssd_cons (psd_setIx (i := 4) rfl (.inl rfl) (by decide) (by decide) rfl (pd_tuple rfl rfl m_tuple (poOf (pd_sorted rfl hr.units rfl m_sorted (poOf (pd_comp (own := [("place", 9)]) rfl nd (pid_seqS (po_var (i := 8) rfl (.inr (.inl rfl)) (by decide) (by decide))) (blkOk_by rfl) (fun _ _ _ _ _ => (pgd_name (i := 9) nd rfl (.inl rfl) (.inr rfl))) (fun _ _ _ _ _ => (pts_cond (.inl ⟨rfl, rfl⟩))) (fun _ _ _ _ _ => (pd_callE rfl takes_none5 c__law_to hr rfl (pad_cons (pd_var (i := 7) rfl (.inr (.inl rfl)) (by decide) (by decide) rfl) (pad_cons (pd_var (i := 9) rfl (.inl rfl) (by decide) (by decide) rfl) pad_nil rfl) rfl) rfl (by decide) rfl rfl (dCons_len (dCons_len dNil_len)))) (fun _ => rfl) (inL rfl)))))) (po_var (i := 6) rfl (.inl rfl) (by decide) (by decide)) (fun _ => rfl) rfl rfl rfl)
    (pssd_one (psd_setIx (i := 4) rfl (.inl rfl) (by decide) (by decide) rfl (pd_var (i := 7) rfl (.inr (.inl rfl)) (by decide) (by decide) rfl) (poOf (pd_add (po_var (i := 6) rfl (.inl rfl) (by decide) (by decide)) (poOf pd_int))) (fun _ => rfl) rfl rfl rfl))))))) (fun _ => rfl))
    (pssd_one (psd_ret (pd_tuple rfl rfl m_tuple (po_var (i := 4) rfl (.inl rfl) (by decide) (by decide))))))))
abbrev n__law_loop : List Str := ["size", "row", "number", "reached", "time", "one", "place"]
abbrev s__law_loop : Stmt := topS 30
def d__law_loop : Df := ⟨s__law_loop, "_law_loop", n__law_loop, ["size", "row"], [], b__law_loop⟩
theorem sc__law_loop : FnScope n__law_loop ["size", "row"] (defScope s__law_loop) := ⟨rfl, rfl, rfl, by decide +kernel, rfl, by decide +kernel, by decide +kernel⟩
theorem w__law_loop {P : Program} {w : World} {K : PySem.W.Frag} {mg : Str → Option Value} {base : Heap} {C : Addr} {ec : Nat → Option Value} {c : Cf} {k : Nat} (m_range : mg "range" = none) (m_len : mg "len" = none) : BodyOk P w K mg base C ec c k d__law_loop := by
  intro f cdv A outer s H E A0 F0 hr
  have nd : (n__law_loop).Nodup := sc__law_loop.nd
  show PSs (cxOf (L2.CX P w) P w K mg base n__law_loop "_law_loop" (defScope s__law_loop) f cdv A outer s H E) (defBody s__law_loop) (tS ⟨K, C, [], fun cls dd _ H' => E cls dd H', c, ec, A0, F0, H⟩ b__law_loop)
  exact (pssd_cons (psd_for (passes_of rfl) rfl (pid_rng1 rfl m_range (poOf (pd_len rfl rfl rfl m_len (po_var (i := 1) rfl (.inl rfl) (by decide) (by decide)))) rfl) (pgd_name (i := 2) nd rfl (.inl rfl) (.inl rfl)) (notM rfl)
    (pssd_cons (psd_set (i := 3) nd rfl (.inr rfl) (pd_lst (pad_cons (pd_ix rfl (poOf (pd_ix rfl (po_var (i := 1) rfl (.inl rfl) (by decide) (by decide)) (po_var (i := 2) rfl (.inl rfl) (by decide) (by decide)) (fun _ _ => rfl))) (poOf pd_int) (fun _ _ => rfl)) pad_nil rfl)) rfl (.inl rfl) rfl)
    (pssd_cons (psd_for (passes_of rfl) rfl (pid_rng1 rfl m_range (po_var (i := 2) rfl (.inl rfl) (by decide) (by decide)) rfl) (pgd_name (i := 4) nd rfl (.inl rfl) (.inl rfl)) (notM rfl)
    (pssd_one (psd_for (passes_of rfl) rfl (pid_seqF (pd_slH rfl (po_var (i := 1) rfl (.inl rfl) (by decide) (by decide)) (po_var (i := 2) rfl (.inl rfl) (by decide) (by decide)))) (pgd_name (i := 5) nd rfl (.inl rfl) (.inl rfl)) (notM rfl)
    (pssd_one (psd_if (ptd_cmp (cs_ne rfl hr.units) rfl (poOf (pd_cmp (cs_in rfl hr.units) (poOf (pd_ix rfl (po_var (i := 5) rfl (.inl rfl) (by decide) (by decide)) (poOf pd_int) (fun _ _ => rfl))) (po_var (i := 3) rfl (.inr (.inl rfl)) (by decide) (by decide)) rfl)) (poOf (pd_cmp (cs_in rfl hr.units) (poOf (pd_ix rfl (po_var (i := 5) rfl (.inl rfl) (by decide) (by decide)) (poOf pd_int) (fun _ _ => rfl))) (po_var (i := 3) rfl (.inr (.inl rfl)) (by decide) (by decide)) rfl)) (nomark _))
    (pssd_one (psd_set (i := 3) nd rfl (.inr rfl) (pd_add (po_var (i := 3) rfl (.inr (.inl rfl)) (by decide) (by decide)) (poOf (pd_comp (own := [("place", 6)]) rfl nd (pid_seqS (po_var (i := 5) rfl (.inl rfl) (by decide) (by decide))) (blkOk_by rfl) (fun _ _ _ _ _ => (pgd_name (i := 6) nd rfl (.inl rfl) (.inr rfl))) (fun _ _ _ _ _ => (pts_cond (.inr ⟨_, _, rfl, rfl, (ptd_cmp (cs_notin rfl hr.units) rfl (po_var (i := 6) rfl (.inl rfl) (by decide) (by decide)) (po_var (i := 3) rfl (.inr (.inl rfl)) (by decide) (by decide)) rfl)⟩))) (fun _ _ _ _ _ => (pd_var (i := 6) rfl (.inl rfl) (by decide) (by decide) rfl)) (fun _ => rfl) (inL rfl)))) rfl (.inl rfl) rfl))
    pssd_nil)) (fun _ => rfl))) (fun _ => rfl))
    (pssd_one (psd_if (ptd_cmp (cs_in rfl hr.units) rfl (poOf (pd_ix rfl (poOf (pd_ix rfl (po_var (i := 1) rfl (.inl rfl) (by decide) (by decide)) (po_var (i := 2) rfl (.inl rfl) (by decide) (by decide)) (fun _ _ => rfl))) (poOf pd_int) (fun _ _ => rfl))) (po_var (i := 3) rfl (.inr (.inl rfl)) (by decide) (by decide)) rfl)
    (pssd_one (psd_ret (pd_var (i := 2) rfl (.inl rfl) (by decide) (by decide) rfl)))
    pssd_nil)))) (fun _ => rfl))
    (pssd_one (psd_ret pd_non)))
abbrev n__law_all : List Str := ["size", "row", "found", "time", "longer", "one", "pair"]
abbrev s__law_all : Stmt := topS 31
def d__law_all : Df := ⟨s__law_all, "_law_all", n__law_all, ["size", "row"], [], b__law_all⟩
theorem sc__law_all : FnScope n__law_all ["size", "row"] (defScope s__law_all) := ⟨rfl, rfl, rfl, by decide +kernel, rfl, by decide +kernel, by decide +kernel⟩
theorem w__law_all {P : Program} {w : World} {K : PySem.W.Frag} {mg : Str → Option Value} {base : Heap} {C : Addr} {ec : Nat → Option Value} {c : Cf} {k : Nat} (m_range : mg "range" = none) (m_len : mg "len" = none) (c__law_pairs : Callee P w K mg base C ec c k "_law_pairs" 30 1) (c__law_loop : Callee P w K mg base C ec c k "_law_loop" 47 2) (c__law_is_round : Callee P w K mg base C ec c k "_law_is_round" 38 2) : BodyOk P w K mg base C ec c k d__law_all := by
  intro f cdv A outer s H E A0 F0 hr
  have nd : (n__law_all).Nodup := sc__law_all.nd
  show PSs (cxOf (L2.CX P w) P w K mg base n__law_all "_law_all" (defScope s__law_all) f cdv A outer s H E) (defBody s__law_all) (tS ⟨K, C, [], fun cls dd _ H' => E cls dd H', c, ec, A0, F0, H⟩ b__law_all)
  exact (pssd_cons (psd_set (i := 2) nd rfl (.inl rfl) (pd_lst (pad_cons (pd_var (i := 1) rfl (.inl rfl) (by decide) (by decide) rfl) pad_nil rfl)) rfl (.inl rfl) rfl)
    (pssd_cons (psd_for (passes_of rfl) rfl (pid_rng1 rfl m_range (poOf (pd_sub (poOf (pd_sub (po_var (i := 0) rfl (.inr (.inl rfl)) (by decide) (by decide)) (poOf pd_int))) (poOf (pd_len rfl rfl rfl m_len (po_var (i := 1) rfl (.inl rfl) (by decide) (by decide)))))) rfl) (pgd_name (i := 3) nd rfl (.inl rfl) (.inl rfl)) (notM rfl)
    (pssd_cons (psd_set (i := 4) nd rfl (.inl rfl) (pd_lst pad_nil) rfl (.inl rfl) rfl)
    (pssd_cons (psd_for (passes_of rfl) rfl (pid_seqF (pd_var (i := 2) rfl (.inl rfl) (by decide) (by decide) rfl)) (pgd_name (i := 5) nd rfl (.inr rfl) (.inl rfl)) (notM rfl)
    (pssd_one (psd_set (i := 4) nd rfl (.inl rfl) (pd_add (po_var (i := 4) rfl (.inl rfl) (by decide) (by decide)) (poOf (pd_comp (own := [("pair", 6)]) rfl nd (pid_seqS (poOf (pd_callE rfl (takes_of rfl rfl rfl rfl) c__law_pairs hr rfl (pad_cons (pd_var (i := 0) rfl (.inr (.inl rfl)) (by decide) (by decide) rfl) pad_nil rfl) rfl (by decide) rfl rfl (dCons_len dNil_len)))) (blkOk_by rfl) (fun _ _ _ _ _ => (pgd_name (i := 6) nd rfl (.inl rfl) (.inr rfl))) (fun _ _ _ _ _ => (pts_cond (.inr ⟨_, _, rfl, rfl, (ptd_isN (poOf (pd_callE rfl takes_none5 c__law_loop hr rfl (pad_cons (pd_var (i := 0) rfl (.inr (.inl rfl)) (by decide) (by decide) rfl) (pad_cons (pd_add (po_var (i := 5) rfl (.inr (.inl rfl)) (by decide) (by decide)) (poOf (pd_tup (pad_cons (pd_var (i := 6) rfl (.inl rfl) (by decide) (by decide) rfl) pad_nil rfl)))) pad_nil rfl) rfl) rfl (by decide) rfl rfl (dCons_len (dCons_len dNil_len)))))⟩))) (fun _ _ _ _ _ => (pd_add (po_var (i := 5) rfl (.inr (.inl rfl)) (by decide) (by decide)) (poOf (pd_tup (pad_cons (pd_var (i := 6) rfl (.inl rfl) (by decide) (by decide) rfl) pad_nil rfl))))) (fun _ => rfl) (inL rfl)))) rfl (.inl rfl) rfl)) (fun _ => rfl))
    (pssd_one (psd_set (i := 2) nd rfl (.inl rfl) (pd_var (i := 4) rfl (.inl rfl) (by decide) (by decide) rfl) rfl (.inl rfl) rfl)))) (fun _ => rfl))
    (pssd_one (psd_ret (pd_comp (own := [("one", 5)]) rfl nd (pid_seqS (po_var (i := 2) rfl (.inl rfl) (by decide) (by decide))) (blkOk_by rfl) (fun _ _ _ _ _ => (pgd_name (i := 5) nd rfl (.inl rfl) (.inr rfl))) (fun _ _ _ _ _ => (pts_cond (.inr ⟨_, _, rfl, rfl, (pt_of rfl (poOf (pd_callE rfl takes_none5 c__law_is_round hr rfl (pad_cons (pd_var (i := 0) rfl (.inr (.inl rfl)) (by decide) (by decide) rfl) (pad_cons (pd_var (i := 5) rfl (.inl rfl) (by decide) (by decide) rfl) pad_nil rfl) rfl) rfl (by decide) rfl rfl (dCons_len (dCons_len dNil_len)))) (fun _ => rfl))⟩))) (fun _ _ _ _ _ => (pd_var (i := 5) rfl (.inl rfl) (by decide) (by decide) rfl)) (fun _ => rfl) (inL rfl))))))
abbrev n_law : List Str := ["script", "draws", "size", "many", "time", "every"]
abbrev s_law : Stmt := topS 32
def d_law : Df := ⟨s_law, "law", n_law, ["script"], [], b_law⟩
theorem sc_law : FnScope n_law ["script"] (defScope s_law) := ⟨rfl, rfl, rfl, by decide +kernel, rfl, by decide +kernel, by decide +kernel⟩
theorem w_law {P : Program} {w : World} {K : PySem.W.Frag} {mg : Str → Option Value} {base : Heap} {C : Addr} {ec : Nat → Option Value} {c : Cf} {k : Nat} (c__law_row : Callee P w K mg base C ec c k "_law_row" 29 2) (m_range : mg "range" = none) (c_count_lists : Callee P w K mg base C ec c k "count_lists" 64 1) (c_count_completions : Callee P w K mg base C ec c k "count_completions" 17 2) (c_next_exchanges : Callee P w K mg base C ec c k "next_exchanges" 18 2) (c__law_pairs : Callee P w K mg base C ec c k "_law_pairs" 30 1) (c_all_lists : Callee P w K mg base C ec c k "all_lists" 66 1) (m_len : mg "len" = none) (m_sorted : mg "sorted" = none) (m_set : mg "set" = none) (c__law_round : Callee P w K mg base C ec c k "_law_round" 32 3) (c__law_all : Callee P w K mg base C ec c k "_law_all" 62 2) (c__law_is_round : Callee P w K mg base C ec c k "_law_is_round" 38 2) : BodyOk P w K mg base C ec c k d_law := by
  intro f cdv A outer s H E A0 F0 hr
  have nd : (n_law).Nodup := sc_law.nd
  show PSs (cxOf (L2.CX P w) P w K mg base n_law "law" (defScope s_law) f cdv A outer s H E) (defBody s_law) (tS ⟨K, C, [], fun cls dd _ H' => E cls dd H', c, ec, A0, F0, H⟩ b_law)
  exact (pssd_cons (psd_set (i := 1) nd rfl (.inl rfl) (pd_callE rfl (takes_of rfl rfl rfl rfl) c__law_row hr rfl (pad_cons (pd_var (i := 0) rfl (.inl rfl) (by decide) (by decide) rfl) (pad_cons pd_int pad_nil rfl) rfl) rfl (by decide) rfl rfl (dCons_len (dCons_len dNil_len))) rfl (.inl rfl) rfl)
    (pssd_cons (psd_set (i := 2) nd rfl (.inl rfl) (pd_ix rfl (poOf (pd_lst (pad_cons pd_int (pad_cons pd_int (pad_cons pd_int (pad_cons pd_int (pad_cons pd_int (pad_cons pd_int (pad_cons pd_int (pad_cons pd_int pad_nil rfl) rfl) rfl) rfl) rfl) rfl) rfl) rfl))) (poOf (pd_mod (poOf (pd_ix rfl (po_var (i := 1) rfl (.inl rfl) (by decide) (by decide)) (poOf pd_int) (fun _ _ => rfl))) (poOf pd_int))) (fun _ _ => rfl)) rfl (.inl rfl) rfl)
    (pssd_cons (psd_set (i := 3) nd rfl (.inl rfl) pd_int rfl (.inl rfl) rfl)
    (pssd_cons (psd_for (passes_of rfl) rfl (pid_rng1 rfl m_range (poOf (pd_sub (po_var (i := 2) rfl (.inl rfl) (by decide) (by decide)) (poOf pd_int))) rfl) (pgd_name (i := 4) nd rfl (.inl rfl) (.inl rfl)) (notM rfl)
    (pssd_one (psd_set (i := 3) nd rfl (.inl rfl) (pd_mul (po_var (i := 3) rfl (.inl rfl) (by decide) (by decide)) (po_var (i := 2) rfl (.inl rfl) (by decide) (by decide))) rfl (.inl rfl) rfl)) (fun _ => rfl))
    (pssd_cons (psd_if (ptd_cmp (cs_ne rfl hr.units) rfl (poOf (pd_callE rfl (takes_of rfl rfl rfl rfl) c_count_lists hr rfl (pad_cons (pd_var (i := 2) rfl (.inl rfl) (by decide) (by decide) rfl) pad_nil rfl) rfl (by decide) rfl rfl (dCons_len dNil_len))) (po_var (i := 3) rfl (.inl rfl) (by decide) (by decide)) (nomark _))
    (pssd_one (psd_ret pd_bl))
    pssd_nil)
    (pssd_cons (psd_if (ptd_cmp (cs_eq rfl hr.units) rfl (po_var (i := 2) rfl (.inl rfl) (by decide) (by decide)) (poOf pd_int) (nomark _))
    (pssd_one (psd_ret (pd_and rfl (pd_cmp (cs_eq rfl hr.units) (poOf (pd_callE rfl (takes_of rfl rfl rfl rfl) c_count_completions hr rfl (pad_cons pd_int (pad_cons (pd_tup (pad_cons (pd_tup (pad_cons pd_int (pad_cons pd_int pad_nil rfl) rfl)) pad_nil rfl)) pad_nil rfl) rfl) rfl (by decide) rfl rfl (dCons_len (dCons_len dNil_len)))) (poOf pd_int) (nomark _)) (pd_one (pd_cmp (cs_eq rfl hr.units) (poOf (pd_callE rfl (takes_of rfl rfl rfl rfl) c_next_exchanges hr rfl (pad_cons pd_int (pad_cons (pd_tup pad_nil) pad_nil rfl) rfl) rfl (by decide) rfl rfl (dCons_len (dCons_len dNil_len)))) (poOf (pd_callE rfl (takes_of rfl rfl rfl rfl) c__law_pairs hr rfl (pad_cons pd_int pad_nil rfl) rfl (by decide) rfl rfl (dCons_len dNil_len))) (nomark _))))))
    pssd_nil)
    (pssd_cons (psd_set (i := 5) nd rfl (.inl rfl) (pd_callE rfl (takes_of rfl rfl rfl rfl) c_all_lists hr rfl (pad_cons (pd_var (i := 2) rfl (.inl rfl) (by decide) (by decide) rfl) pad_nil rfl) rfl (by decide) rfl rfl (dCons_len dNil_len)) rfl (.inl rfl) rfl)
    (pssd_cons (psd_if (PW.pt (pwd_or (ptd_cmp (cs_ne rfl hr.units) rfl (poOf (pd_len rfl rfl rfl m_len (po_var (i := 5) rfl (.inl rfl) (by decide) (by decide)))) (po_var (i := 3) rfl (.inl rfl) (by decide) (by decide)) (nomark _)) (pwd_or (ptd_cmp (cs_ne rfl hr.units) rfl (po_var (i := 5) rfl (.inl rfl) (by decide) (by decide)) (poOf (pd_ssl rfl rfl hr.units rfl m_sorted rfl m_set (po_var (i := 5) rfl (.inl rfl) (by decide) (by decide)) rfl rfl)) (nomark _)) (pwd_or1 (ptd_cmp (cs_notin rfl hr.units) rfl (poOf (pd_callE rfl (takes_of rfl rfl rfl rfl) c__law_round hr rfl (pad_cons (pd_var (i := 0) rfl (.inl rfl) (by decide) (by decide) rfl) (pad_cons pd_int (pad_cons (pd_var (i := 2) rfl (.inl rfl) (by decide) (by decide) rfl) pad_nil rfl) rfl) rfl) rfl (by decide) rfl rfl (dCons_len (dCons_len (dCons_len dNil_len))))) (po_var (i := 5) rfl (.inl rfl) (by decide) (by decide)) rfl)))))
    (pssd_one (psd_ret pd_bl))
    pssd_nil)
    (pssd_cons (psd_if (PW.pt (pwd_and (ptd_cmp cs_lt rfl (po_var (i := 2) rfl (.inl rfl) (by decide) (by decide)) (poOf pd_int) (nomark _)) (pwd_and1 (ptd_cmp (cs_ne rfl hr.units) rfl (po_var (i := 5) rfl (.inl rfl) (by decide) (by decide)) (poOf (pd_sorted rfl hr.units rfl m_sorted (poOf (pd_callE rfl (takes_of rfl rfl rfl rfl) c__law_all hr rfl (pad_cons (pd_var (i := 2) rfl (.inl rfl) (by decide) (by decide) rfl) (pad_cons (pd_tup pad_nil) pad_nil rfl) rfl) rfl (by decide) rfl rfl (dCons_len (dCons_len dNil_len)))))) (nomark _)))))
    (pssd_one (psd_ret pd_bl))
    pssd_nil)
    (pssd_one (psd_ret (pd_callE rfl (takes_of rfl rfl rfl rfl) c__law_is_round hr rfl (pad_cons (pd_var (i := 2) rfl (.inl rfl) (by decide) (by decide) rfl) (pad_cons (pd_ix rfl (po_var (i := 5) rfl (.inl rfl) (by decide) (by decide)) (poOf (pd_mod (poOf (pd_ix rfl (po_var (i := 1) rfl (.inl rfl) (by decide) (by decide)) (poOf pd_int) (fun _ _ => rfl))) (po_var (i := 3) rfl (.inl rfl) (by decide) (by decide)))) (fun _ _ => rfl)) pad_nil rfl) rfl) rfl (by decide) rfl rfl (dCons_len (dCons_len dNil_len))))))))))))))
def defs : List (Nat × Df) := [(1, d_in_range), (2, d_check_size), (3, d_is_exchange), (4, d_are_exchanges), (6, d_check_part), (7, d_moved), (8, d_result_of), (14, d_every_exchange), (15, d_rest_groups), (16, d_completions_of), (64, d_count_lists), (17, d_count_completions), (18, d_next_exchanges), (65, d_lists_from), (66, d_all_lists), (28, d__law_cell), (29, d__law_row), (30, d__law_pairs), (31, d__law_to), (37, d__law_result), (38, d__law_is_round), (32, d__law_round), (47, d__law_loop), (62, d__law_all), (0, d_law)]
def fa : List He.Fa := [.free "isinstance", .free "int", .free "bool", .free "tuple", .free "len", .free "range", .free "list", .free "sorted", .free "set", .int "MAX_SIZE" 6, .glo "in_range", .glo "check_size", .glo "is_exchange", .glo "are_exchanges", .glo "check_part", .glo "moved", .glo "result_of", .glo "every_exchange", .glo "rest_groups", .glo "completions_of", .glo "count_lists", .glo "count_completions", .glo "next_exchanges", .glo "lists_from", .glo "all_lists", .glo "_law_cell", .glo "_law_row", .glo "_law_pairs", .glo "_law_to", .glo "_law_result", .glo "_law_is_round", .glo "_law_round", .glo "_law_loop", .glo "_law_all", .glo "law"]
def fn : List He.DefD := [⟨("in_range", none), "in_range", "in_range", defArgs s_in_range, defBody s_in_range, defScope s_in_range, [], []⟩, ⟨("check_size", none), "check_size", "check_size", defArgs s_check_size, defBody s_check_size, defScope s_check_size, [], []⟩, ⟨("is_exchange", none), "is_exchange", "is_exchange", defArgs s_is_exchange, defBody s_is_exchange, defScope s_is_exchange, [], []⟩, ⟨("are_exchanges", none), "are_exchanges", "are_exchanges", defArgs s_are_exchanges, defBody s_are_exchanges, defScope s_are_exchanges, [], []⟩, ⟨("check_part", none), "check_part", "check_part", defArgs s_check_part, defBody s_check_part, defScope s_check_part, [], []⟩, ⟨("moved", none), "moved", "moved", defArgs s_moved, defBody s_moved, defScope s_moved, [], []⟩, ⟨("result_of", none), "result_of", "result_of", defArgs s_result_of, defBody s_result_of, defScope s_result_of, [], []⟩, ⟨("every_exchange", none), "every_exchange", "every_exchange", defArgs s_every_exchange, defBody s_every_exchange, defScope s_every_exchange, [], []⟩, ⟨("rest_groups", none), "rest_groups", "rest_groups", defArgs s_rest_groups, defBody s_rest_groups, defScope s_rest_groups, [], []⟩, ⟨("completions_of", none), "completions_of", "completions_of", defArgs s_completions_of, defBody s_completions_of, defScope s_completions_of, [], []⟩, ⟨("count_lists", none), "count_lists", "count_lists", defArgs s_count_lists, defBody s_count_lists, defScope s_count_lists, [], []⟩, ⟨("count_completions", none), "count_completions", "count_completions", defArgs s_count_completions, defBody s_count_completions, defScope s_count_completions, [], []⟩, ⟨("next_exchanges", none), "next_exchanges", "next_exchanges", defArgs s_next_exchanges, defBody s_next_exchanges, defScope s_next_exchanges, [], []⟩, ⟨("lists_from", none), "lists_from", "lists_from", defArgs s_lists_from, defBody s_lists_from, defScope s_lists_from, [], []⟩, ⟨("all_lists", none), "all_lists", "all_lists", defArgs s_all_lists, defBody s_all_lists, defScope s_all_lists, [], []⟩, ⟨("_law_cell", none), "_law_cell", "_law_cell", defArgs s__law_cell, defBody s__law_cell, defScope s__law_cell, [], []⟩, ⟨("_law_row", none), "_law_row", "_law_row", defArgs s__law_row, defBody s__law_row, defScope s__law_row, [], []⟩, ⟨("_law_pairs", none), "_law_pairs", "_law_pairs", defArgs s__law_pairs, defBody s__law_pairs, defScope s__law_pairs, [], []⟩, ⟨("_law_to", none), "_law_to", "_law_to", defArgs s__law_to, defBody s__law_to, defScope s__law_to, [], []⟩, ⟨("_law_result", none), "_law_result", "_law_result", defArgs s__law_result, defBody s__law_result, defScope s__law_result, [], []⟩, ⟨("_law_is_round", none), "_law_is_round", "_law_is_round", defArgs s__law_is_round, defBody s__law_is_round, defScope s__law_is_round, [], []⟩, ⟨("_law_round", none), "_law_round", "_law_round", defArgs s__law_round, defBody s__law_round, defScope s__law_round, [], []⟩, ⟨("_law_loop", none), "_law_loop", "_law_loop", defArgs s__law_loop, defBody s__law_loop, defScope s__law_loop, [], []⟩, ⟨("_law_all", none), "_law_all", "_law_all", defArgs s__law_all, defBody s__law_all, defScope s__law_all, [], []⟩, ⟨("law", none), "law", "law", defArgs s_law, defBody s_law, defScope s_law, [], []⟩]
abbrev R : PySem.W.OpenRow := PySem.W.OpenLaw.row PySem.Challenge.rw_roundexchanges_k10_whole_all_lists
abbrev hk : PySem.W.Hook := hookX 4 fa fn xsL
abbrev ob : PySem.W.SharedT → He.AlD × Bool := obX 4 fa fn xsL
abbrev loose : List Str := (["ExchangeError", "InvalidSize", "InvalidList", "MAX_SIZE", "in_range", "check_size", "is_exchange", "are_exchanges", "check_part", "moved", "result_of", "every_exchange", "rest_groups", "completions_of", "count_lists", "count_completions", "next_exchanges", "lists_from", "all_lists", "_law_cell", "_law_row", "_law_pairs", "_law_to", "_law_result", "_law_is_round", "_law_round", "_law_loop", "_law_all"] : List Str)
theorem runs (w : World) : HandSHeadRun.RunEq R (PySem.W.view R.prog [32]) hk ob 4000 loose w := by
  intro os
  kernel_rfl
theorem facts {P : Program} {w : World} {K : PySem.W.Frag} {h : Heap} {mg : Str → Option Value} {f : Addr} (X : K.In h) (G : h.Ns mainGlobals mg) (hfa : mg ("law" : Str) = some (.ref f)) (c : He.SaysD fa fn K ∧ xsOk K xsL = true) (n : Nat)
    (hL : ∀ ns : List Int, ns.length ≤ 63 → ∃ w', run (tbOf defs) n 0 [dScript ns] [] = some (.val (.bool true), w')) :
    ∃ (fd : FuncData) (sp : Sp), (∀ (s : Shared) (v : Value), BindsTo s fd ⟨[v], []⟩ [("script", v)]) ∧ (∀ (H : Hp) (a : Addr) (ns : List Int), ns.length ≤ 63 → Only H → SqL K H a (ns.map V.int) → sp [.ref a] H (fun v _ => v = .bl true) fun _ _ _ => False) ∧ ∀ base : Heap, K.In base → base.Ns mainGlobals mg → FnOk P w K mg base (L2.CX P w) n f fd ["script"] sp := by
  have xa : XAll K mg (ecOf K xsL) xsL := xsOk_all X G c.2
  have m_isinstance : mg "isinstance" = none := He.free_ok X G (c.1.fact 0 (f := .free "isinstance") rfl)
  have m_int : mg "int" = none := He.free_ok X G (c.1.fact 1 (f := .free "int") rfl)
  have m_bool : mg "bool" = none := He.free_ok X G (c.1.fact 2 (f := .free "bool") rfl)
  have m_tuple : mg "tuple" = none := He.free_ok X G (c.1.fact 3 (f := .free "tuple") rfl)
  have m_len : mg "len" = none := He.free_ok X G (c.1.fact 4 (f := .free "len") rfl)
  have m_range : mg "range" = none := He.free_ok X G (c.1.fact 5 (f := .free "range") rfl)
  have m_list : mg "list" = none := He.free_ok X G (c.1.fact 6 (f := .free "list") rfl)
  have m_sorted : mg "sorted" = none := He.free_ok X G (c.1.fact 7 (f := .free "sorted") rfl)
  have m_set : mg "set" = none := He.free_ok X G (c.1.fact 8 (f := .free "set") rfl)
  have g_MAX_SIZE : ∃ t, mg "MAX_SIZE" = some (.int 6 t) := He.int_ok X G (c.1.fact 9 (f := .int "MAX_SIZE" 6) rfl)
  obtain ⟨fd_in_range, F_in_range⟩ := c.1.def_ 0 rfl
  have G_in_range := He.glo_ok X G (c.1.fact 10 (f := .glo "in_range") rfl)
  obtain ⟨fd_check_size, F_check_size⟩ := c.1.def_ 1 rfl
  have G_check_size := He.glo_ok X G (c.1.fact 11 (f := .glo "check_size") rfl)
  obtain ⟨fd_is_exchange, F_is_exchange⟩ := c.1.def_ 2 rfl
  have G_is_exchange := He.glo_ok X G (c.1.fact 12 (f := .glo "is_exchange") rfl)
  obtain ⟨fd_are_exchanges, F_are_exchanges⟩ := c.1.def_ 3 rfl
  have G_are_exchanges := He.glo_ok X G (c.1.fact 13 (f := .glo "are_exchanges") rfl)
  obtain ⟨fd_check_part, F_check_part⟩ := c.1.def_ 4 rfl
  have G_check_part := He.glo_ok X G (c.1.fact 14 (f := .glo "check_part") rfl)
  obtain ⟨fd_moved, F_moved⟩ := c.1.def_ 5 rfl
  have G_moved := He.glo_ok X G (c.1.fact 15 (f := .glo "moved") rfl)
  obtain ⟨fd_result_of, F_result_of⟩ := c.1.def_ 6 rfl
  have G_result_of := He.glo_ok X G (c.1.fact 16 (f := .glo "result_of") rfl)
  obtain ⟨fd_every_exchange, F_every_exchange⟩ := c.1.def_ 7 rfl
  have G_every_exchange := He.glo_ok X G (c.1.fact 17 (f := .glo "every_exchange") rfl)
  obtain ⟨fd_rest_groups, F_rest_groups⟩ := c.1.def_ 8 rfl
  have G_rest_groups := He.glo_ok X G (c.1.fact 18 (f := .glo "rest_groups") rfl)
  obtain ⟨fd_completions_of, F_completions_of⟩ := c.1.def_ 9 rfl
  have G_completions_of := He.glo_ok X G (c.1.fact 19 (f := .glo "completions_of") rfl)
  obtain ⟨fd_count_lists, F_count_lists⟩ := c.1.def_ 10 rfl
  have G_count_lists := He.glo_ok X G (c.1.fact 20 (f := .glo "count_lists") rfl)
  obtain ⟨fd_count_completions, F_count_completions⟩ := c.1.def_ 11 rfl
  have G_count_completions := He.glo_ok X G (c.1.fact 21 (f := .glo "count_completions") rfl)
  obtain ⟨fd_next_exchanges, F_next_exchanges⟩ := c.1.def_ 12 rfl
  have G_next_exchanges := He.glo_ok X G (c.1.fact 22 (f := .glo "next_exchanges") rfl)
  obtain ⟨fd_lists_from, F_lists_from⟩ := c.1.def_ 13 rfl
  have G_lists_from := He.glo_ok X G (c.1.fact 23 (f := .glo "lists_from") rfl)
  obtain ⟨fd_all_lists, F_all_lists⟩ := c.1.def_ 14 rfl
  have G_all_lists := He.glo_ok X G (c.1.fact 24 (f := .glo "all_lists") rfl)
  obtain ⟨fd__law_cell, F__law_cell⟩ := c.1.def_ 15 rfl
  have G__law_cell := He.glo_ok X G (c.1.fact 25 (f := .glo "_law_cell") rfl)
  obtain ⟨fd__law_row, F__law_row⟩ := c.1.def_ 16 rfl
  have G__law_row := He.glo_ok X G (c.1.fact 26 (f := .glo "_law_row") rfl)
  obtain ⟨fd__law_pairs, F__law_pairs⟩ := c.1.def_ 17 rfl
  have G__law_pairs := He.glo_ok X G (c.1.fact 27 (f := .glo "_law_pairs") rfl)
  obtain ⟨fd__law_to, F__law_to⟩ := c.1.def_ 18 rfl
  have G__law_to := He.glo_ok X G (c.1.fact 28 (f := .glo "_law_to") rfl)
  obtain ⟨fd__law_result, F__law_result⟩ := c.1.def_ 19 rfl
  have G__law_result := He.glo_ok X G (c.1.fact 29 (f := .glo "_law_result") rfl)
  obtain ⟨fd__law_is_round, F__law_is_round⟩ := c.1.def_ 20 rfl
  have G__law_is_round := He.glo_ok X G (c.1.fact 30 (f := .glo "_law_is_round") rfl)
  obtain ⟨fd__law_round, F__law_round⟩ := c.1.def_ 21 rfl
  have G__law_round := He.glo_ok X G (c.1.fact 31 (f := .glo "_law_round") rfl)
  obtain ⟨fd__law_loop, F__law_loop⟩ := c.1.def_ 22 rfl
  have G__law_loop := He.glo_ok X G (c.1.fact 32 (f := .glo "_law_loop") rfl)
  obtain ⟨fd__law_all, F__law_all⟩ := c.1.def_ 23 rfl
  have G__law_all := He.glo_ok X G (c.1.fact 33 (f := .glo "_law_all") rfl)
  obtain ⟨fd_law, F_law⟩ := c.1.def_ 24 rfl
  have G_law := He.glo_ok X G (c.1.fact 34 (f := .glo "law") rfl)
  have B_in_range : Binds K fd_in_range ["value", "low", "high"] [] := FunD.bindsN F_in_range fun _ _ _ _ _ _ us hl => match us, hl with | [_, _, _], _ => rfl
  have B_check_size : Binds K fd_check_size ["size"] [] := FunD.bindsN F_check_size fun _ _ _ _ _ _ us hl => match us, hl with | [_], _ => rfl
  have B_is_exchange : Binds K fd_is_exchange ["size", "value"] [] := FunD.bindsN F_is_exchange fun _ _ _ _ _ _ us hl => match us, hl with | [_, _], _ => rfl
  have B_are_exchanges : Binds K fd_are_exchanges ["size", "value", "most"] [] := FunD.bindsN F_are_exchanges fun _ _ _ _ _ _ us hl => match us, hl with | [_, _, _], _ => rfl
  have B_check_part : Binds K fd_check_part ["size", "row"] [] := FunD.bindsN F_check_part fun _ _ _ _ _ _ us hl => match us, hl with | [_, _], _ => rfl
  have B_moved : Binds K fd_moved ["one", "place"] [] := FunD.bindsN F_moved fun _ _ _ _ _ _ us hl => match us, hl with | [_, _], _ => rfl
  have B_result_of : Binds K fd_result_of ["size", "row"] [] := FunD.bindsN F_result_of fun _ _ _ _ _ _ us hl => match us, hl with | [_, _], _ => rfl
  have B_every_exchange : Binds K fd_every_exchange ["size"] [] := FunD.bindsN F_every_exchange fun _ _ _ _ _ _ us hl => match us, hl with | [_], _ => rfl
  have B_rest_groups : Binds K fd_rest_groups ["size", "row"] [] := FunD.bindsN F_rest_groups fun _ _ _ _ _ _ us hl => match us, hl with | [_, _], _ => rfl
  have B_completions_of : Binds K fd_completions_of ["size", "row"] [] := FunD.bindsN F_completions_of fun _ _ _ _ _ _ us hl => match us, hl with | [_, _], _ => rfl
  have B_count_lists : Binds K fd_count_lists ["size"] [] := FunD.bindsN F_count_lists fun _ _ _ _ _ _ us hl => match us, hl with | [_], _ => rfl
  have B_count_completions : Binds K fd_count_completions ["size", "row"] [] := FunD.bindsN F_count_completions fun _ _ _ _ _ _ us hl => match us, hl with | [_, _], _ => rfl
  have B_next_exchanges : Binds K fd_next_exchanges ["size", "row"] [] := FunD.bindsN F_next_exchanges fun _ _ _ _ _ _ us hl => match us, hl with | [_, _], _ => rfl
  have B_lists_from : Binds K fd_lists_from ["size", "row"] [] := FunD.bindsN F_lists_from fun _ _ _ _ _ _ us hl => match us, hl with | [_, _], _ => rfl
  have B_all_lists : Binds K fd_all_lists ["size"] [] := FunD.bindsN F_all_lists fun _ _ _ _ _ _ us hl => match us, hl with | [_], _ => rfl
  have B__law_cell : Binds K fd__law_cell ["script", "k"] [] := FunD.bindsN F__law_cell fun _ _ _ _ _ _ us hl => match us, hl with | [_, _], _ => rfl
  have B__law_row : Binds K fd__law_row ["script", "at"] [] := FunD.bindsN F__law_row fun _ _ _ _ _ _ us hl => match us, hl with | [_, _], _ => rfl
  have B__law_pairs : Binds K fd__law_pairs ["size"] [] := FunD.bindsN F__law_pairs fun _ _ _ _ _ _ us hl => match us, hl with | [_], _ => rfl
  have B__law_to : Binds K fd__law_to ["one", "place"] [] := FunD.bindsN F__law_to fun _ _ _ _ _ _ us hl => match us, hl with | [_, _], _ => rfl
  have B__law_result : Binds K fd__law_result ["size", "row"] [] := FunD.bindsN F__law_result fun _ _ _ _ _ _ us hl => match us, hl with | [_, _], _ => rfl
  have B__law_is_round : Binds K fd__law_is_round ["size", "row"] [] := FunD.bindsN F__law_is_round fun _ _ _ _ _ _ us hl => match us, hl with | [_, _], _ => rfl
  have B__law_round : Binds K fd__law_round ["script", "at", "size"] [] := FunD.bindsN F__law_round fun _ _ _ _ _ _ us hl => match us, hl with | [_, _, _], _ => rfl
  have B__law_loop : Binds K fd__law_loop ["size", "row"] [] := FunD.bindsN F__law_loop fun _ _ _ _ _ _ us hl => match us, hl with | [_, _], _ => rfl
  have B__law_all : Binds K fd__law_all ["size", "row"] [] := FunD.bindsN F__law_all fun _ _ _ _ _ _ us hl => match us, hl with | [_, _], _ => rfl
  have B_law : Binds K fd_law ["script"] [] := FunD.bindsN F_law fun _ _ _ _ _ _ us hl => match us, hl with | [_], _ => rfl
  have BL := FunD.bindsA (ps := ["script"]) F_law fun _ _ _ _ _ _ us hl => match us, hl with | [_], _ => rfl
  have e := hfa.symm.trans G_law
  cases e
  refine ⟨fd_law, spOf K 0 (ecOf K xsL) (run (tbOf defs) n) 0 1, fun s v => BL s [v] rfl, law_end hL, fun base _ _ => ?_⟩
  have hF : AllD (fun d => ∃ (f : Addr) (fd : FuncData), mg d.x = some (.ref f) ∧ FunD K d.x d.x (defArgs d.st) (defBody d.st) (defScope d.st) [] [] f fd ∧ Binds K fd d.ps []) defs := ⟨⟨_, fd_in_range, G_in_range, F_in_range, B_in_range⟩, ⟨_, fd_check_size, G_check_size, F_check_size, B_check_size⟩, ⟨_, fd_is_exchange, G_is_exchange, F_is_exchange, B_is_exchange⟩, ⟨_, fd_are_exchanges, G_are_exchanges, F_are_exchanges, B_are_exchanges⟩, ⟨_, fd_check_part, G_check_part, F_check_part, B_check_part⟩, ⟨_, fd_moved, G_moved, F_moved, B_moved⟩, ⟨_, fd_result_of, G_result_of, F_result_of, B_result_of⟩, ⟨_, fd_every_exchange, G_every_exchange, F_every_exchange, B_every_exchange⟩, ⟨_, fd_rest_groups, G_rest_groups, F_rest_groups, B_rest_groups⟩, ⟨_, fd_completions_of, G_completions_of, F_completions_of, B_completions_of⟩, ⟨_, fd_count_lists, G_count_lists, F_count_lists, B_count_lists⟩, ⟨_, fd_count_completions, G_count_completions, F_count_completions, B_count_completions⟩, ⟨_, fd_next_exchanges, G_next_exchanges, F_next_exchanges, B_next_exchanges⟩, ⟨_, fd_lists_from, G_lists_from, F_lists_from, B_lists_from⟩, ⟨_, fd_all_lists, G_all_lists, F_all_lists, B_all_lists⟩, ⟨_, fd__law_cell, G__law_cell, F__law_cell, B__law_cell⟩, ⟨_, fd__law_row, G__law_row, F__law_row, B__law_row⟩, ⟨_, fd__law_pairs, G__law_pairs, F__law_pairs, B__law_pairs⟩, ⟨_, fd__law_to, G__law_to, F__law_to, B__law_to⟩, ⟨_, fd__law_result, G__law_result, F__law_result, B__law_result⟩, ⟨_, fd__law_is_round, G__law_is_round, F__law_is_round, B__law_is_round⟩, ⟨_, fd__law_round, G__law_round, F__law_round, B__law_round⟩, ⟨_, fd__law_loop, G__law_loop, F__law_loop, B__law_loop⟩, ⟨_, fd__law_all, G__law_all, F__law_all, B__law_all⟩, ⟨_, fd_law, G_law, F_law, B_law⟩, trivial⟩
  have hS : AllD (fun d => FnScope d.N d.ps (defScope d.st) ∧ d.ps.length ≤ d.N.length ∧ ∀ i, i < d.ps.length → d.M.contains i = false) defs := ⟨⟨sc_in_range, by decide, by decide⟩, ⟨sc_check_size, by decide, by decide⟩, ⟨sc_is_exchange, by decide, by decide⟩, ⟨sc_are_exchanges, by decide, by decide⟩, ⟨sc_check_part, by decide, by decide⟩, ⟨sc_moved, by decide, by decide⟩, ⟨sc_result_of, by decide, by decide⟩, ⟨sc_every_exchange, by decide, by decide⟩, ⟨sc_rest_groups, by decide, by decide⟩, ⟨sc_completions_of, by decide, by decide⟩, ⟨sc_count_lists, by decide, by decide⟩, ⟨sc_count_completions, by decide, by decide⟩, ⟨sc_next_exchanges, by decide, by decide⟩, ⟨sc_lists_from, by decide, by decide⟩, ⟨sc_all_lists, by decide, by decide⟩, ⟨sc__law_cell, by decide, by decide⟩, ⟨sc__law_row, by decide, by decide⟩, ⟨sc__law_pairs, by decide, by decide⟩, ⟨sc__law_to, by decide, by decide⟩, ⟨sc__law_result, by decide, by decide⟩, ⟨sc__law_is_round, by decide, by decide⟩, ⟨sc__law_round, by decide, by decide⟩, ⟨sc__law_loop, by decide, by decide⟩, ⟨sc__law_all, by decide, by decide⟩, ⟨sc_law, by decide, by decide⟩, trivial⟩
  have all := all_ok2 (P := P) (w := w) (base := base) (C := 0) (ec := ecOf K xsL) hF hS (fun c k hc => ⟨w_in_range m_isinstance m_int m_bool, w_check_size (hc 1 _ rfl) g_MAX_SIZE xa, w_is_exchange m_isinstance m_tuple m_len (hc 1 _ rfl), w_are_exchanges m_isinstance m_tuple m_len (hc 3 _ rfl), w_check_part (hc 2 _ rfl) (hc 4 _ rfl) xa, w_moved, w_result_of m_range (hc 7 _ rfl) m_tuple, w_every_exchange m_range, w_rest_groups (hc 8 _ rfl) m_range, w_completions_of (hc 15 _ rfl) m_len m_range, w_count_lists (hc 2 _ rfl) (hc 16 _ rfl), w_count_completions (hc 6 _ rfl) (hc 16 _ rfl), w_next_exchanges (hc 6 _ rfl) m_len (hc 14 _ rfl) (hc 16 _ rfl), w_lists_from m_len (hc 16 _ rfl) (hc 14 _ rfl) (hc 65 _ rfl), w_all_lists (hc 2 _ rfl) (hc 65 _ rfl), w__law_cell m_len, w__law_row (hc 28 _ rfl) m_range, w__law_pairs m_range, w__law_to, w__law_result m_list m_range (hc 31 _ rfl) m_tuple, w__law_is_round (hc 37 _ rfl) m_tuple m_range, w__law_round (hc 29 _ rfl) m_range m_tuple m_sorted (hc 31 _ rfl), w__law_loop m_range m_len, w__law_all m_range m_len (hc 30 _ rfl) (hc 47 _ rfl) (hc 38 _ rfl), w_law (hc 29 _ rfl) m_range (hc 64 _ rfl) (hc 17 _ rfl) (hc 18 _ rfl) (hc 30 _ rfl) (hc 66 _ rfl) m_len m_sorted m_set (hc 32 _ rfl) (hc 62 _ rfl) (hc 38 _ rfl), trivial⟩) n 0 d_law rfl _ _ F_law
  exact all
theorem has : Has (tbOf defs) := ⟨rfl, rfl, rfl, rfl, rfl, rfl, rfl, rfl, rfl, rfl, rfl, rfl, rfl, rfl, rfl, rfl, rfl, rfl, rfl, rfl, rfl, rfl, rfl, rfl, rfl⟩
end Rx10
end Rx
section
open PySem PySem.W PySem.Calls PyProof.Rows
theorem Rx.Rx10.holds (n : Nat) (hr : L2.Room n callerA) (hL : ∀ ns : List Int, ns.length ≤ 63 → ∃ w', Rx.run (Rx.tbOf Rx.Rx10.defs) n 0 [Rx.dScript ns] [] = some (.val (.bool true), w')) : PySem.Challenge.rw_roundexchanges_k10_whole_all_lists.Holds := by
  w_on; o_law
  refine HandSHeadRun.head_any (r := OpenLaw.row PySem.Challenge.rw_roundexchanges_k10_whole_all_lists) (q := view (OpenLaw.row PySem.Challenge.rw_roundexchanges_k10_whole_all_lists).prog [32]) (H := Rx.Rx10.hk) (ob := Rx.Rx10.ob) (M := 4000) (loose := Rx.Rx10.loose) (d := HandSHeadRun.topDef (OpenLaw.row PySem.Challenge.rw_roundexchanges_k10_whole_all_lists).prog 32) (kwd := []) Rx.obX_eq
    (by kernel_rfl) (fun s => by kernel_rfl) Rx.Rx10.runs (by kernel_rfl) (by kernel_rfl) (by kernel_rfl) (by rfl) (by first | assumption | decide +kernel) (by decide +kernel) ⟨rfl, rfl, rfl, rfl, rfl, by decide +kernel⟩ ?hw ?hc
  case hw => w_witness2
  case hc =>
    refine Rx.walkX (l := PySem.Challenge.rw_roundexchanges_k10_whole_all_lists) (n := 63) (k := n) (x := "script") rfl (by decide) (by kernel_rfl) hr ?F
    intro w mg fa h Y G hmg0
    obtain ⟨K, KX, cc⟩ := Y
    have hmg : mg ("law" : PySem.Str) = some (.ref fa) := by
      have e : (HandSHeadRun.topDef (OpenLaw.row PySem.Challenge.rw_roundexchanges_k10_whole_all_lists).prog 32).name = ("law" : PySem.Str) := by kernel_rfl
      rw [← e]
      exact hmg0
    obtain ⟨fd, sp, hb, hs, hF⟩ := Rx.Rx10.facts (P := (PySem.Challenge.rw_roundexchanges_k10_whole_all_lists).prog) (w := w) KX G hmg cc n hL
    exact ⟨K, fd, sp, KX, hb, hs, hF⟩
end

set_option linter.all false
set_option maxRecDepth 100000
set_option autoImplicit false
namespace Rx
open PySem
/-! ### evaluating -/
section
variable (c : Cf) (r : Env) (w : Om) (a b t : Ex) (es : Exs) (A B : Sx)
@[simp] theorem e_dC (d : D) : dC d c r w = some (.val d, w) := rfl
@[simp] theorem e_dNil : dNil c r w = some (.vals [], w) := rfl
@[simp] theorem e_dVar (i : Nat) : dVar i c r w = (match r[i]? with
  | some (some d) => some (.val d, w)
  | _ => none) := rfl
@[simp] theorem e_dCons : dCons a es c r w = (match a c r w with
  | none => none
  | some (.exc x, w1) => some (.exc x, w1)
  | some (.val d, w1) => match es c r w1 with
    | none => none
    | some (.exc x, w2) => some (.exc x, w2)
    | some (.vals ds, w2) => some (.vals (d :: ds), w2)) := rfl
@[simp] theorem e_dPrim (p : Pr) : dPrim p es c r w = (match es c r w with
  | none => none
  | some (.exc x, w1) => some (.exc x, w1)
  | some (.vals ds, w1) => (prim p ds).map fun d => (.val d, w1)) := rfl
@[simp] theorem e_dCall (f : Nat) : dCall f es c r w = (match es c r w with
  | none => none
  | some (.exc x, w1) => some (.exc x, w1)
  | some (.vals ds, w1) => c f ds w1) := rfl
@[simp] theorem e_dIte : dIte t a b c r w = (match t c r w with
  | none => none
  | some (.exc x, w1) => some (.exc x, w1)
  | some (.val d, w1) => match truth d with
    | none => none
    | some true => a c r w1
    | some false => b c r w1) := rfl
@[simp] theorem e_dAnd : dAnd a b c r w = (match a c r w with
  | none => none
  | some (.exc x, w1) => some (.exc x, w1)
  | some (.val d, w1) => match truth d with
    | none => none
    | some true => b c r w1
    | some false => some (.val d, w1)) := rfl
@[simp] theorem e_dOr : dOr a b c r w = (match a c r w with
  | none => none
  | some (.exc x, w1) => some (.exc x, w1)
  | some (.val d, w1) => match truth d with
    | none => none
    | some true => some (.val d, w1)
    | some false => b c r w1) := rfl
@[simp] theorem e_dNot : dNot a c r w = (match a c r w with
  | none => none
  | some (.exc x, w1) => some (.exc x, w1)
  | some (.val d, w1) => (truth d).map fun b => (.val (.bool (!b)), w1)) := rfl
@[simp] theorem e_dMeth (p : Pr) (ok : D → Bool) : dMeth p ok a b c r w = (match a c r w with
  | none => none
  | some (.exc x, w1) => some (.exc x, w1)
  | some (.val d, w1) => if ok d = true then (match b c r w1 with
    | none => none
    | some (.exc x, w2) => some (.exc x, w2)
    | some (.val e, w2) => (prim p [d, e]).map fun v => (.val v, w2)) else none) := rfl
@[simp] theorem e_sPass : sPass c r w = some (.next r, w) := rfl
@[simp] theorem e_sRaise (k : Nat) : sRaise k c r w = some (.exc ⟨k, .none⟩ r, w) := rfl
@[simp] theorem e_sSeq : sSeq A B c r w = (match A c r w with
  | none => none
  | some (.next r1, w1) => B c r1 w1
  | some (.ret d, w1) => some (.ret d, w1)
  | some (.exc x r1, w1) => some (.exc x r1, w1)) := rfl
@[simp] theorem e_sIf : sIf t A B c r w = (match t c r w with
  | none => none
  | some (.exc x, w1) => some (.exc x r, w1)
  | some (.val d, w1) => match truth d with
    | none => none
    | some true => A c r w1
    | some false => B c r w1) := rfl
@[simp] theorem e_sRet : sRet a c r w = (match a c r w with
  | none => none
  | some (.exc x, w1) => some (.exc x r, w1)
  | some (.val d, w1) => some (.ret d, w1)) := rfl
@[simp] theorem e_sExpr : sExpr a c r w = (match a c r w with
  | none => none
  | some (.exc x, w1) => some (.exc x r, w1)
  | some (.val _, w1) => some (.next r, w1)) := rfl
@[simp] theorem e_sAsg (i : Nat) : sAsg i a c r w = (match a c r w with
  | none => none
  | some (.exc x, w1) => some (.exc x r, w1)
  | some (.val d, w1) => some (.next (r.set i (some d)), w1)) := rfl
@[simp] theorem e_sPar (is : List Nat) : sPar is es c r w = (match es c r w with
  | none => none
  | some (.exc x, w1) => some (.exc x r, w1)
  | some (.vals ds, w1) => (setAll is ds r).map fun r1 => (.next r1, w1)) := rfl
@[simp] theorem e_sAsgT (tg : Tg) : sAsgT tg a c r w = (match a c r w with
  | none => none
  | some (.exc x, w1) => some (.exc x r, w1)
  | some (.val d, w1) => (bindT tg d r).map fun r1 => (.next r1, w1)) := rfl
@[simp] theorem e_iSeq : iSeq a c r w = (match a c r w with
  | none => none
  | some (.exc x, w1) => some (.exc x, w1)
  | some (.val d, w1) => (items d).map fun ds => (.vals ds, w1)) := rfl
@[simp] theorem e_sFor (src : Exs) (tg : Tg) : sFor src tg A c r w = (match src c r w with
  | none => none
  | some (.exc x, w1) => some (.exc x r, w1)
  | some (.vals xs, w1) => forGo c tg A xs r w1) := rfl
@[simp] theorem e_dChain (p q : Pr) : dChain p q a b t c r w = (match a c r w with
  | none => none
  | some (.exc x, w1) => some (.exc x, w1)
  | some (.val da, w1) => match b c r w1 with
    | none => none
    | some (.exc x, w2) => some (.exc x, w2)
    | some (.val db, w2) => match prim p [da, db] with
      | some (.bool true) => (match t c r w2 with
        | none => none
        | some (.exc x, w3) => some (.exc x, w3)
        | some (.val de, w3) => (prim q [db, de]).map fun d => (.val d, w3))
      | some (.bool false) => some (.val (.bool false), w2)
      | _ => none) := rfl
end
section
variable (d e f : D)
@[simp] theorem p_add : prim .add [d, e] = addP d e := rfl
@[simp] theorem p_sub : prim .sub [d, e] = subP d e := rfl
@[simp] theorem p_mul : prim .mul [d, e] = mulP d e := rfl
@[simp] theorem p_fdiv : prim .fdiv [d, e] = fdivP d e := rfl
@[simp] theorem p_mod : prim .mod [d, e] = modP d e := rfl
@[simp] theorem p_pow : prim .pow [d, e] = powP d e := rfl
@[simp] theorem p_neg : prim .neg [d] = negP d := rfl
@[simp] theorem p_eq : prim .eq [d, e] = eqP d e := rfl
@[simp] theorem p_ne : prim .ne [d, e] = neP d e := rfl
@[simp] theorem p_lt (i j : Int) : prim .lt [.int i, .int j] = some (.bool (decide (i < j))) := rfl
@[simp] theorem p_le (i j : Int) : prim .le [.int i, .int j] = some (.bool (decide (i ≤ j))) := rfl
@[simp] theorem p_gt (i j : Int) : prim .gt [.int i, .int j] = some (.bool (decide (j < i))) := rfl
@[simp] theorem p_isInt : prim .isInt [d] = tstP isInt d := rfl
@[simp] theorem p_isBool : prim .isBool [d] = tstP isBool d := rfl
@[simp] theorem p_isTuple : prim .isTuple [d] = tstP isTup d := rfl
@[simp] theorem p_ix : prim .ix [d, e] = ixP d e := rfl
@[simp] theorem p_len : prim .len [d] = lenP d := rfl
@[simp] theorem p_slL : prim .slL [d, e] = slL d e := rfl
@[simp] theorem p_slH : prim .slH [d, e] = slH d e := rfl
@[simp] theorem p_tuple : prim .tuple [d] = (items d).map .tuple := rfl
@[simp] theorem p_list : prim .list [d] = (items d).map .list := rfl
@[simp] theorem p_sorted : prim .sorted [d] = sortedP d := rfl
@[simp] theorem p_tup (ds : List D) : prim .tup ds = tupP ds := rfl
@[simp] theorem p_lst (ds : List D) : prim .lst ds = lstP ds := rfl
@[simp] theorem p_tuplex : prim .tuplex [d] = tupxP d := rfl
@[simp] theorem p_max1 : prim .max1 [d] = max1P d := rfl
@[simp] theorem p_int : prim .int [d] = intP d := rfl
@[simp] theorem p_isN : prim .isN [d] = tstP isNone d := rfl
@[simp] theorem p_rng1 : prim .rng1 [d] = rng1P d := rfl
@[simp] theorem p_rng2 : prim .rng2 [d, e] = rng2P d e := rfl
end
@[simp] theorem addP_int (i j : Int) : addP (.int i) (.int j) = some (.int (i + j)) := rfl
@[simp] theorem subP_int (i j : Int) : subP (.int i) (.int j) = some (.int (i - j)) := rfl
@[simp] theorem truth_bool (b : Bool) : truth (.bool b) = some b := rfl
@[simp] theorem truth_list (ds : List D) : truth (.list ds) = some (!ds.isEmpty) := rfl
@[simp] theorem eqP_int (i j : Int) : eqP (.int i) (.int j) = some (.bool (decide (i = j))) := by
  simp [eqP, norm, eqOk, plain, shal, eqd]
  rfl
@[simp] theorem neP_int (i j : Int) : neP (.int i) (.int j) = some (.bool (!decide (i = j))) := by
  simp [neP, norm, eqOk, plain, shal, eqd]
  rfl
@[simp] theorem items_list (ds : List D) : items (.list ds) = some ds := rfl
@[simp] theorem items_tuple (ds : List D) : items (.tuple ds) = some ds := rfl
def pr (p : Int × Int) : D := .tuple [.int p.1, .int p.2]
@[simp] theorem ix_pr0 (p : Int × Int) : ixP (pr p) (.int 0) = some (.int p.1) := rfl
@[simp] theorem ix_pr1 (p : Int × Int) : ixP (pr p) (.int 1) = some (.int p.2) := rfl
def mv (p : Int × Int) (x : Int) : Int := if x = p.1 then p.2 else if x = p.2 then p.1 else x
theorem run_at {T : Tb} {n f : Nat} {ds : List D} {w : Om} {F : Fd} (h : T f = some F) (hl : ds.length = F.params) (hs : F.params ≤ F.slots) : run T (n + 1) f ds w = fin (F.body (run T n) (ds.map some ++ List.replicate (F.slots - F.params) none) w) := by
  rw [run, h]
  simp only [hl, hs, and_self, if_true]
theorem moved_ok {T : Tb} (h : T i_moved = some f_moved) (n : Nat) (p : Int × Int) (x : Int) (w : Om) : run T (n + 1) i_moved [pr p, .int x] w = some (.val (.int (mv p x)), w) := by
  rw [run_at h rfl (by decide)]
  by_cases h1 : x = p.1
  · subst h1; simp [f_moved, b_moved, fin, mv]
  · by_cases h2 : x = p.2
    · subst h2; simp [f_moved, b_moved, fin, mv, h1]
    · simp [f_moved, b_moved, fin, mv, h1, h2]
theorem lto_ok {T : Tb} (h : T i__law_to = some f__law_to) (n : Nat) (p : Int × Int) (x : Int) (w : Om) : run T (n + 1) i__law_to [pr p, .int x] w = some (.val (.int (mv p x)), w) := by
  rw [run_at h rfl (by decide)]
  by_cases h1 : x = p.1
  · subst h1; simp [f__law_to, b__law_to, fin, mv]
  · by_cases h2 : x = p.2
    · subst h2; simp [f__law_to, b__law_to, fin, mv, h1]
    · simp [f__law_to, b__law_to, fin, mv, h1, h2]
/-! ### loops and comprehensions -/
section
variable {α σ : Type} {c : Cf} {w : Om} {tg : Tg} {body : Sx}
theorem for_fold (env : σ → Env) (f : σ → α → σ) (dat : α → D) : ∀ (xs : List α) (s : σ), (∀ s, ∀ x ∈ xs, ∃ r1, bindT tg (dat x) (env s) = some r1 ∧ body c r1 w = some (.next (env (f s x)), w)) → forGo c tg body (xs.map dat) (env s) w = some (.next (env (xs.foldl f s)), w)
  | [], s, _ => rfl
  | x :: xs, s, h => by
    obtain ⟨r1, e1, e2⟩ := h s x (.head _)
    rw [List.map_cons, forGo, e1]
    simp only
    rw [e2]
    simp only
    rw [for_fold env f dat xs (f s x) fun s y hy => h s y (.tail _ hy)]
    rfl
/-- .. with what holds at each turn -/
theorem for_inv (env : σ → Env) (P : Nat → σ → Prop) (dat : α → D) : ∀ (xs : List α) (i : Nat) (s : σ), P i s → (∀ j s x, P j s → xs[j - i]? = some x → i ≤ j → ∃ r1 s', bindT tg (dat x) (env s) = some r1 ∧ body c r1 w = some (.next (env s'), w) ∧ P (j + 1) s') →
    ∃ s', forGo c tg body (xs.map dat) (env s) w = some (.next (env s'), w) ∧ P (i + xs.length) s'
  | [], i, s, p, _ => ⟨s, rfl, p⟩
  | x :: xs, i, s, p, h => by
    obtain ⟨r1, s1, e1, e2, p1⟩ := h i s x p (by simp) (Nat.le_refl _)
    obtain ⟨s2, e3, p2⟩ := for_inv env P dat xs (i + 1) s1 p1 fun j s y pj hy hj => h j s y pj (by
      have : j - i = (j - (i + 1)) + 1 := by omega
      rw [this]; simpa using hy) (by omega)
    refine ⟨s2, ?_, by rw [List.length_cons, show i + (xs.length + 1) = i + 1 + xs.length by omega]; exact p2⟩
    rw [List.map_cons, forGo, e1]
    simp only
    rw [e2]
    simp only
    exact e3
theorem comp_filter {r : Env} {t elt : Ex} (p : α → Bool) (g : α → D) (dat : α → D) : ∀ (xs : List α), (∀ x ∈ xs, ∃ r1, bindT tg (dat x) r = some r1 ∧ t c r1 w = some (.val (.bool (p x)), w) ∧ (p x = true → elt c r1 w = some (.val (g x), w) ∧ plain (g x) = true)) →
    compGo c r tg (some t) (one elt) (xs.map dat) w = some ((xs.filter p).map g, w)
  | [], _ => rfl
  | x :: xs, h => by
    obtain ⟨r1, e1, e2, e3⟩ := h x (.head _)
    have ih := comp_filter p g dat xs fun y hy => h y (.tail _ hy)
    rw [List.map_cons, compGo, e1]
    simp only [e2, truth_bool, Option.map_some]
    cases hp : p x with
    | false => simp only; rw [ih, List.filter_cons, hp]; rfl
    | true =>
      obtain ⟨e4, e5⟩ := e3 hp
      have e6 : one elt c r1 w = some ([g x], w) := by unfold one; rw [e4]; simp only [e5, if_true]
      simp only [e6, ih, Option.map_some]
      rw [List.filter_cons, hp]; rfl
theorem comp_map {r : Env} {elt : Ex} (g : α → D) (dat : α → D) : ∀ (xs : List α), (∀ x ∈ xs, ∃ r1, bindT tg (dat x) r = some r1 ∧ elt c r1 w = some (.val (g x), w) ∧ plain (g x) = true) →
    compGo c r tg none (one elt) (xs.map dat) w = some (xs.map g, w)
  | [], _ => rfl
  | x :: xs, h => by
    obtain ⟨r1, e1, e4, e5⟩ := h x (.head _)
    have ih := comp_map g dat xs fun y hy => h y (.tail _ hy)
    rw [List.map_cons, compGo, e1]
    have e6 : one elt c r1 w = some ([g x], w) := by unfold one; rw [e4]; simp only [e5, if_true]
    simp only [e6, ih, Option.map_some]
    rfl
theorem dComp_map {r : Env} {src : Exs} {elt : Ex} {own : List Nat} (g : α → D) (dat : α → D) (xs : List α) (hs : src c r w = some (.vals (xs.map dat), w)) (h : ∀ x ∈ xs, ∃ r1, bindT tg (dat x) (wipeR r own) = some r1 ∧ elt c r1 w = some (.val (g x), w) ∧ plain (g x) = true) (hl : xs.length ≤ zL) :
    dComp src tg none elt own c r w = some (.val (.list (xs.map g)), w) := by
  unfold dComp
  rw [hs]
  simp only
  rw [comp_map g dat xs h]
  simp only [List.length_map, hl, if_true]
theorem dComp_filter {r : Env} {src : Exs} {t elt : Ex} {own : List Nat} (p : α → Bool) (g : α → D) (dat : α → D) (xs : List α) (hs : src c r w = some (.vals (xs.map dat), w)) (h : ∀ x ∈ xs, ∃ r1, bindT tg (dat x) (wipeR r own) = some r1 ∧ t c r1 w = some (.val (.bool (p x)), w) ∧ (p x = true → elt c r1 w = some (.val (g x), w) ∧ plain (g x) = true)) (hl : xs.length ≤ zL) :
    dComp src tg (some t) elt own c r w = some (.val (.list ((xs.filter p).map g)), w) := by
  unfold dComp
  rw [hs]
  simp only
  rw [comp_filter p g dat xs h]
  have : ((xs.filter p).map g).length ≤ zL := by rw [List.length_map]; exact Nat.le_trans (List.length_filter_le _ _) hl
  simp only [this, if_true]
end
@[simp] theorem e_iRng1 (c : Cf) (r : Env) (w : Om) (a : Ex) (j : Int) (h : a c r w = some (.val (.int j), w)) (hj : inR j = true) : iRng (dCons a dNil) c r w = some (.vals (rangeD 0 j), w) := by
  simp [iRng, h, hj]
theorem e_iRng2 (c : Cf) (r : Env) (w : Om) (a b : Ex) (i j : Int) (h : a c r w = some (.val (.int i), w)) (h2 : b c r w = some (.val (.int j), w)) (hi : inR i = true) (hj : inR j = true) : iRng (dCons a (dCons b dNil)) c r w = some (.vals (rangeD i j), w) := by
  simp [iRng, h, h2, hi, hj]
theorem rangeD_map (lo hi : Int) : rangeD lo hi = ((List.range (hi - lo).toNat).map fun i => lo + (i : Nat)).map .int := by
  unfold rangeD; rw [List.map_map]; rfl
theorem for_rng {σ : Type} {c : Cf} {w : Om} {tg : Tg} {body : Sx} (env : σ → Env) (P : Nat → σ → Prop) (lo hi : Int) (s : σ) (p0 : P 0 s)
    (h : ∀ (j : Nat) (s : σ), P j s → (j : Int) < hi - lo → ∃ r1 s', bindT tg (.int (lo + (j : Nat))) (env s) = some r1 ∧ body c r1 w = some (.next (env s'), w) ∧ P (j + 1) s') :
    ∃ s', forGo c tg body (rangeD lo hi) (env s) w = some (.next (env s'), w) ∧ P (hi - lo).toNat s' := by
  have q := for_inv (c := c) (w := w) (tg := tg) (body := body) env P (fun i : Nat => .int (lo + (i : Nat))) (List.range (hi - lo).toNat) 0 s p0 fun j s x pj hx _ => by
    rw [Nat.sub_zero] at hx
    have hj : j < (hi - lo).toNat := by
      have := (List.getElem?_eq_some_iff.mp hx).1
      simpa using this
    rw [List.getElem?_range hj] at hx
    cases hx
    exact h j s pj (by omega)
  simpa [rangeD] using q
/-! ### equal data -/
mutual
theorem eqd_self : ∀ (n : Nat) (d : D), shal n d = true → eqd d d = true
  | _, .none, _ => rfl
  | _, .bool b, _ => by simp [eqd]
  | _, .int i, _ => by simp [eqd]
  | _, .str x, _ => by simp [eqd]
  | 0, .list _, h => by simp [shal] at h
  | 0, .tuple _, h => by simp [shal] at h
  | n + 1, .list ds, h => by rw [eqd]; rw [shal] at h; exact eqdAll_self n ds (List.all_eq_true.mp h)
  | n + 1, .tuple ds, h => by rw [eqd]; rw [shal] at h; exact eqdAll_self n ds (List.all_eq_true.mp h)
  | 0, .dict _, h => by simp [shal] at h
  | n + 1, .dict _, h => by simp [shal] at h
theorem eqdAll_self : ∀ (n : Nat) (ds : List D), (∀ d ∈ ds, shal n d = true) → eqdAll ds ds = true
  | _, [], _ => rfl
  | n, d :: ds, h => by rw [eqdAll, eqd_self n d (h d (.head _)), eqdAll_self n ds fun e he => h e (.tail _ he)]; rfl
end
theorem shal_pl {n : Nat} {d : D} (h : shal n d = true) : plain d = true := by
  cases d <;> first | rfl | (cases n <;> simp [shal] at h)
theorem norm_pl {d : D} (h : plain d = true) : norm d = d := by
  cases d <;> first | rfl | cases h
theorem eqP_self {d : D} (h : shal 8 d = true) : eqP d d = some (.bool true) := by
  unfold eqP eqOk; rw [norm_pl (shal_pl h), shal_pl h, h, eqd_self 8 d h]; rfl
theorem neP_self {d : D} (h : shal 8 d = true) : neP d d = some (.bool false) := by
  unfold neP eqOk; rw [norm_pl (shal_pl h), shal_pl h, h, eqd_self 8 d h]; rfl
/-! ### rows -/
def dR (r : List (Int × Int)) : D := .tuple (r.map pr)
theorem shal_pr (n : Nat) (p : Int × Int) : shal (n + 1) (pr p) = true := by simp [shal, pr]
theorem shal_dR (n : Nat) (r : List (Int × Int)) : shal (n + 2) (dR r) = true := by
  unfold dR; rw [shal, List.all_eq_true]
  intro d hd
  obtain ⟨p, _, rfl⟩ := List.mem_map.mp hd
  exact shal_pr n p
def Ok (s : Int) (p : Int × Int) : Prop := 0 ≤ p.1 ∧ p.1 < p.2 ∧ p.2 < s
instance (s : Int) (p : Int × Int) : Decidable (Ok s p) := by unfold Ok; infer_instance
def OkR (s : Int) (r : List (Int × Int)) : Prop := ∀ p ∈ r, Ok s p
def sem (r : List (Int × Int)) (x : Int) : Int := r.foldl (fun x p => mv p x) x
def cj (q p : Int × Int) : Int × Int := if mv q p.1 ≤ mv q p.2 then (mv q p.1, mv q p.2) else (mv q p.2, mv q p.1)
theorem led_int (a b : Int) : led (.int a) (.int b) = decide (a ≤ b) := by
  unfold led ltd
  rw [show ltK (kt (.int b)) (kt (.int a)) = decide (b < a) by simp [kt, ltK, ltI]]
  by_cases h : a ≤ b
  · rw [decide_eq_true h, decide_eq_false (by omega)]; rfl
  · rw [decide_eq_false h, decide_eq_true (by omega)]; rfl
theorem sorted2 (a b : Int) : sortedP (.list [.int a, .int b]) = some (.list (if a ≤ b then [.int a, .int b] else [.int b, .int a])) := by
  have : srtOk [.int a, .int b] = true := rfl
  simp [sortedP, this, isort, ins, led_int]
end Rx

set_option linter.all false
set_option maxRecDepth 100000
set_option autoImplicit false
namespace Rx
open PySem
section
variable {T : Tb} {n : Nat} {w : Om}
/-! ### checks -/
theorem inr_int (h : T i_in_range = some f_in_range) (i lo hi : Int) : run T (n + 1) i_in_range [.int i, .int lo, .int hi] w = some (.val (.bool (decide (lo ≤ i ∧ i ≤ hi))), w) := by
  rw [run_at h rfl (by decide)]
  by_cases h1 : lo ≤ i
  · by_cases h2 : i ≤ hi <;> simp [f_in_range, b_in_range, fin, tstP, plain, isInt, isBool, h1, h2]
  · simp [f_in_range, b_in_range, fin, tstP, plain, isInt, isBool, h1]
theorem inr_bool (h : T i_in_range = some f_in_range) (b : Bool) (lo hi : Int) : run T (n + 1) i_in_range [.bool b, .int lo, .int hi] w = some (.val (.bool false), w) := by
  rw [run_at h rfl (by decide)]
  simp [f_in_range, b_in_range, fin, tstP, plain, isInt, isBool]
theorem inr_none (h : T i_in_range = some f_in_range) (lo hi : Int) : run T (n + 1) i_in_range [.none, .int lo, .int hi] w = some (.val (.bool false), w) := by
  rw [run_at h rfl (by decide)]
  simp [f_in_range, b_in_range, fin, tstP, plain, isInt, isBool]
theorem csize_ok (h : T i_in_range = some f_in_range) (h2 : T i_check_size = some f_check_size) (s : Int) (hs : 2 ≤ s ∧ s ≤ 6) : run T (n + 2) i_check_size [.int s] w = some (.val .none, w) := by
  rw [run_at h2 rfl (by decide)]
  simp [f_check_size, b_check_size, fin, inr_int h, hs]
theorem isx_ok (h : T i_in_range = some f_in_range) (h2 : T i_is_exchange = some f_is_exchange) (s : Int) (p : Int × Int) : run T (n + 2) i_is_exchange [.int s, pr p] w = some (.val (.bool (decide (Ok s p))), w) := by
  rw [run_at h2 rfl (by decide)]
  have e1 : tstP isTup (pr p) = some (.bool true) := rfl
  have e2 : lenP (pr p) = some (.int 2) := rfl
  by_cases h1 : 0 ≤ p.1 ∧ p.1 ≤ s - 1
  · by_cases h3 : Ok s p
    · have h4 : p.1 + 1 ≤ p.2 ∧ p.2 ≤ s - 1 := by unfold Ok at h3; omega
      simp [f_is_exchange, b_is_exchange, fin, inr_int h, e1, e2, h1, h3, h4]
    · have h4 : ¬ (p.1 + 1 ≤ p.2 ∧ p.2 ≤ s - 1) := by unfold Ok at h3; omega
      simp only [not_and] at h4
      by_cases h5 : p.1 + 1 ≤ p.2
      · simp [f_is_exchange, b_is_exchange, fin, inr_int h, e1, e2, h1, h3, h4 h5]
      · simp [f_is_exchange, b_is_exchange, fin, inr_int h, e1, e2, h1, h3, h5]
  · have h3 : ¬ Ok s p := by unfold Ok; omega
    simp only [not_and] at h1
    by_cases h5 : 0 ≤ p.1
    · simp [f_is_exchange, b_is_exchange, fin, inr_int h, e1, e2, h1 h5, h3]
    · simp [f_is_exchange, b_is_exchange, fin, inr_int h, e1, e2, h5, h3]
theorem lenP_dR (r : List (Int × Int)) : lenP (dR r) = some (.int r.length) := by simp [lenP, dR]
theorem arex_ok (h : T i_in_range = some f_in_range) (h2 : T i_is_exchange = some f_is_exchange) (h3 : T i_are_exchanges = some f_are_exchanges) (s m : Int) (r : List (Int × Int)) (ok : OkR s r) (hl : (r.length : Int) ≤ m) (hz : r.length ≤ zL) :
    run T (n + 3) i_are_exchanges [.int s, dR r, .int m] w = some (.val (.bool true), w) := by
  rw [run_at h3 rfl (by decide)]
  have e1 : tstP isTup (dR r) = some (.bool true) := rfl
  have hc : dComp (iSeq (dVar 1)) (.nm 3) (some (dNot (dCall 3 (dCons (dVar 0) (dCons (dVar 3) dNil))))) (dVar 3) [3] (run T (n + 2)) [some (.int s), some (dR r), some (.int m), none] w = some (.val (.list []), w) := by
    rw [dComp_filter (fun p => !decide (Ok s p)) pr pr r (by simp [dR]) (fun p hp => ⟨_, rfl, by simp [wipeR, isx_ok h h2], fun _ => ⟨by simp [wipeR], rfl⟩⟩) hz]
    have : r.filter (fun p => !decide (Ok s p)) = [] := by
      rw [List.filter_eq_nil_iff]
      intro p hp
      simp [ok p hp]
    rw [this]
    rfl
  have h4 : ¬ (m < (r.length : Int)) := by omega
  simp [f_are_exchanges, b_are_exchanges, fin, e1, lenP_dR, h4, hc]
theorem clist_ok (h : T i_in_range = some f_in_range) (h1 : T i_check_size = some f_check_size) (h2 : T i_is_exchange = some f_is_exchange) (h3 : T i_are_exchanges = some f_are_exchanges) (h4 : T i_check_list = some f_check_list) (s : Int) (hs : 2 ≤ s ∧ s ≤ 6) (r : List (Int × Int)) (ok : OkR s r) (hl : (r.length : Int) = s - 1) :
    run T (n + 4) i_check_list [.int s, dR r] w = some (.val .none, w) := by
  rw [run_at h4 rfl (by decide)]
  have hz : r.length ≤ zL := by unfold zL; omega
  simp [f_check_list, b_check_list, fin, csize_ok h h1 s hs, arex_ok h h2 h3 s (s - 1) r ok (by omega) hz, lenP_dR, hl]
/-! ### what a list does -/
theorem sem_cons (p : Int × Int) (r : List (Int × Int)) (x : Int) : sem (p :: r) x = sem r (mv p x) := rfl
theorem sem_app (r q : List (Int × Int)) (x : Int) : sem (r ++ q) x = sem q (sem r x) := by unfold sem; rw [List.foldl_append]
def resL (s : Int) (r : List (Int × Int)) : List Int := (List.range s.toNat).map fun i => sem r (i : Nat)
theorem inner_for (h : T i_moved = some f_moved) (s : D) (rd : D) (acc : D) (st : D) : ∀ (r : List (Int × Int)) (x : Int) (o : Option D), ∃ o', forGo (run T (n + 1)) (.nm 5) (sAsg 4 (dCall 7 (dCons (dVar 5) (dCons (dVar 4) dNil)))) (r.map pr) [some s, some rd, some acc, some st, some (.int x), o] w = some (.next [some s, some rd, some acc, some st, some (.int (sem r x)), o'], w)
  | [], x, o => ⟨o, rfl⟩
  | p :: r, x, o => by
    obtain ⟨o', e⟩ := inner_for h s rd acc st r (mv p x) (some (pr p))
    refine ⟨o', ?_⟩
    rw [List.map_cons, forGo]
    simp [bindT, moved_ok h]
    exact e
theorem result_ok (h : T i_moved = some f_moved) (h2 : T i_result_of = some f_result_of) (s : Int) (hs : 0 ≤ s ∧ s ≤ 1000) (r : List (Int × Int)) :
    run T (n + 2) i_result_of [.int s, dR r] w = some (.val (dX (resL s r)), w) := by
  rw [run_at h2 rfl (by decide)]
  obtain ⟨st, e, p⟩ := for_rng (c := run T (n + 1)) (w := w) (tg := .nm 3) (body := sSeq (sAsg 4 (dVar 3)) (sSeq (sFor (iSeq (dVar 1)) (.nm 5) (sAsg 4 (dCall 7 (dCons (dVar 5) (dCons (dVar 4) dNil))))) (sAppend 2 (dVar 4))))
    (σ := List Int × Option D × Option D × Option D) (fun st => [some (.int s), some (dR r), some (.list (st.1.map .int)), st.2.1, st.2.2.1, st.2.2.2]) (fun j st => st.1 = (List.range j).map fun i => sem r (i : Nat)) 0 s ([], none, none, none) rfl
    (fun j st hp hj => by
      obtain ⟨acc, o3, o4, o5⟩ := st
      simp only at hp
      obtain ⟨o', e⟩ := inner_for (T := T) (n := n) (w := w) h (.int s) (dR r) (.list (acc.map .int)) (.int (0 + (j : Nat))) r (0 + (j : Nat)) o5
      refine ⟨_, (acc ++ [sem r (0 + (j : Nat))], some (.int (0 + (j : Nat))), some (.int (sem r (0 + (j : Nat)))), o'), rfl, ?_, ?_⟩
      · have hz : acc.length < zL := by rw [hp, List.length_map, List.length_range]; unfold zL; omega
        simp only [Int.zero_add] at e
        simp [dR, plain]
        simp [dR] at e
        simp [e, sAppend, hz, plain]
      · simp only [hp, List.range_succ, List.map_append, Int.zero_add]; rfl)
  have hi : inR s = true := by unfold inR; simp; omega
  have hr : (s - 0).toNat = s.toNat := by rw [Int.sub_zero]
  rw [hr] at p
  have e2 : iRng (dCons (dVar 0) dNil) (run T (n + 1)) [some (.int s), some (dR r), some (.list []), none, none, none] w = some (.vals (rangeD 0 s), w) := e_iRng1 _ _ _ _ _ (by simp) hi
  simp only [List.map_nil] at e
  simp [f_result_of, b_result_of, fin, lstP, zL, e2, e, p, resL, tupxP]
  rw [show (List.map (PyData.int ∘ fun i : Nat => sem r (i : Int)) (List.range s.toNat)) = ((List.range s.toNat).map fun i : Nat => sem r (i : Int)).map .int by rw [List.map_map], intsOf_map]
  rfl
end
end Rx

set_option linter.all false
set_option maxRecDepth 100000
set_option autoImplicit false
namespace Rx
open PySem
/-! ### lists of ints, compared -/
theorem eqd_ints : ∀ xs ys : List Int, eqdAll (xs.map .int) (ys.map .int) = decide (xs = ys)
  | [], [] => rfl
  | [], y :: ys => by simp [eqdAll]
  | x :: xs, [] => by simp [eqdAll]
  | x :: xs, y :: ys => by
    rw [List.map_cons, List.map_cons, eqdAll, eqd_ints xs ys]
    by_cases h1 : x = y
    · by_cases h2 : xs = ys <;> simp [eqd, h1, h2]
    · simp [eqd, h1]
theorem shal_ints (n : Nat) (xs : List Int) : shal (n + 1) (.tuple (xs.map .int)) = true := by
  rw [shal, List.all_eq_true]
  intro d hd
  obtain ⟨x, _, rfl⟩ := List.mem_map.mp hd
  simp [shal]
theorem eqP_ints (xs ys : List Int) : eqP (.tuple (xs.map .int)) (.tuple (ys.map .int)) = some (.bool (decide (xs = ys))) := by
  unfold eqP eqOk
  rw [show norm (.tuple (xs.map .int)) = .tuple (xs.map .int) from rfl, show norm (.tuple (ys.map .int)) = .tuple (ys.map .int) from rfl, shal_ints 7 xs]
  simp only [plain, Bool.and_self, Bool.true_or, if_true]
  rw [eqd, eqd_ints]
theorem neP_ints (xs ys : List Int) : neP (.tuple (xs.map .int)) (.tuple (ys.map .int)) = some (.bool (!decide (xs = ys))) := by
  unfold neP eqOk
  rw [show norm (.tuple (xs.map .int)) = .tuple (xs.map .int) from rfl, show norm (.tuple (ys.map .int)) = .tuple (ys.map .int) from rfl, shal_ints 7 xs]
  simp only [plain, Bool.and_self, Bool.true_or, if_true]
  rw [eqd, eqd_ints]
theorem norm_dX (xs : List Int) : norm (dX xs) = .tuple (xs.map .int) := rfl
theorem norm_tup (xs : List D) : norm (.tuple xs) = .tuple xs := rfl
theorem eqP_X (xs ys : List Int) : eqP (dX xs) (.tuple (ys.map .int)) = some (.bool (decide (xs = ys))) := by
  have := eqP_ints xs ys
  unfold eqP at this ⊢
  rw [norm_dX]
  exact this
theorem neP_X (xs ys : List Int) : neP (dX xs) (.tuple (ys.map .int)) = some (.bool (!decide (xs = ys))) := by
  have := neP_ints xs ys
  unfold neP at this ⊢
  rw [norm_dX]
  exact this
def cyc (s : Int) : List Int := ((List.range (s - 1).toNat).map fun i => 1 + ((i : Nat) : Int)) ++ [0]
section
variable {T : Tb} {n : Nat} {w : Om}
theorem rndl_ok (h : T i_moved = some f_moved) (h2 : T i_result_of = some f_result_of) (h3 : T i_is_round_list = some f_is_round_list) (s : Int) (hs : 0 ≤ s ∧ s ≤ 1000) (r : List (Int × Int)) :
    run T (n + 3) i_is_round_list [.int s, dR r] w = some (.val (.bool (decide (resL s r = cyc s))), w) := by
  rw [run_at h3 rfl (by decide)]
  have hi : inR s = true := by unfold inR; simp; omega
  have e1 : rng2P (.int 1) (.int s) = some (.list (rangeD 1 s)) := by
    have : (inR 1 && inR s && decide (s - 1 ≤ (zL : Int))) = true := by
      have h9 : s - 1 ≤ (zL : Int) := by unfold zL; omega
      rw [hi, decide_eq_true h9]; rfl
    simp only [rng2P, this, if_true]
  have e3 : tupP [.int 0] = some (.tuple [.int 0]) := rfl
  have e4 : addP (.tuple (rangeD 1 s)) (.tuple [.int 0]) = some (.tuple ((cyc s).map .int)) := by
    have : (rangeD 1 s).length + 1 ≤ zL := by
      unfold rangeD; rw [List.length_map, List.length_range]; unfold zL; omega
    simp only [addP, List.length_cons, List.length_nil, Nat.zero_add, this, if_true]
    unfold cyc rangeD
    simp [List.map_append, List.map_map]
  simp [f_is_round_list, b_is_round_list, fin, result_ok h h2 s hs, e1, e3, e4, eqP_X]
theorem isrnd_ok (h : T i_in_range = some f_in_range) (h1 : T i_check_size = some f_check_size) (h2 : T i_is_exchange = some f_is_exchange) (h3 : T i_are_exchanges = some f_are_exchanges) (h4 : T i_check_list = some f_check_list) (h5 : T i_moved = some f_moved) (h6 : T i_result_of = some f_result_of) (h7 : T i_is_round_list = some f_is_round_list) (h8 : T i_is_round = some f_is_round)
    (s : Int) (hs : 2 ≤ s ∧ s ≤ 6) (r : List (Int × Int)) (ok : OkR s r) (hl : (r.length : Int) = s - 1) :
    run T (n + 5) i_is_round [.int s, dR r] w = some (.val (.bool (decide (resL s r = cyc s))), w) := by
  rw [run_at h8 rfl (by decide)]
  simp [f_is_round, b_is_round, fin, clist_ok h h1 h2 h3 h4 s hs r ok hl, rndl_ok h5 h6 h7 s (by omega) r]
/-- tuple(sorted([f(q, x) for x in p])) where f is what moves -/
theorem srt_pr (a b : Int) : sortedP (.list [.int a, .int b]) = some (.list ([if a ≤ b then (a, b) else (b, a)].flatMap fun q => [.int q.1, .int q.2])) := by
  rw [sorted2]
  by_cases h : a ≤ b <;> simp [h]
theorem cj_of (a b : Int) : (items (.list ([if a ≤ b then (a, b) else (b, a)].flatMap fun q => [.int q.1, .int q.2]))).map PyData.tuple = some (pr (if a ≤ b then (a, b) else (b, a))) := by
  by_cases h : a ≤ b <;> simp [h, pr]
theorem cj_comp {c : Cf} {r : Env} {f : Nat} {q p : Int × Int} {i j k : Nat} (hf : ∀ x : Int, c f [pr q, .int x] w = some (.val (.int (mv q x)), w)) (hr : r[i]? = some (some (pr q))) (hp : r[j]? = some (some (pr p))) (hk : k < r.length) (hki : i ≠ k) :
    dPrim .tuple (dCons (dPrim .sorted (dCons (dComp (iSeq (dVar j)) (.nm k) none (dCall f (dCons (dVar i) (dCons (dVar k) dNil))) [k]) dNil)) dNil) c r w = some (.val (pr (cj q p)), w) := by
  have hc : dComp (iSeq (dVar j)) (.nm k) none (dCall f (dCons (dVar i) (dCons (dVar k) dNil))) [k] c r w = some (.val (.list [.int (mv q p.1), .int (mv q p.2)]), w) := by
    rw [dComp_map (fun x => .int (mv q x)) .int [p.1, p.2] (by simp [hp]; rfl) (fun x hx => ⟨_, rfl, ?_, rfl⟩) (show 2 ≤ zL by decide)]
    · rfl
    · have hk2 : k < ((r.set k none)).length := by rw [List.length_set]; exact hk
      have e1 : ((r.set k none).set k (some (.int x)))[i]? = some (some (pr q)) := by
        rw [List.getElem?_set_ne (fun z => hki z.symm), List.getElem?_set_ne (fun z => hki z.symm)]; exact hr
      have e2 : ((r.set k none).set k (some (.int x)))[k]? = some (some (.int x)) := List.getElem?_set_self hk2
      simp only [wipeR, e_dCall, e_dCons, e_dVar, e_dNil, e1, e2, hf]
  simp only [e_dPrim, e_dCons, e_dNil, hc, p_sorted, srt_pr, Option.map_some, p_tuple, cj_of]
  rfl
theorem thr_ok (h : T i_moved = some f_moved) (h2 : T i_through = some f_through) (q p : Int × Int) : run T (n + 2) i_through [pr q, pr p] w = some (.val (pr (cj q p)), w) := by
  rw [run_at h2 rfl (by decide)]
  simp only [f_through, b_through, List.map_cons, List.map_nil, List.cons_append, List.nil_append]
  rw [e_sRet, cj_comp (q := q) (p := p) (fun x => moved_ok h n q x w) rfl rfl (show 2 < 3 by decide) (by decide)]
  rfl
end
/-! ### parts of rows -/
theorem ixAt_nat {m k : Nat} (h : k < m) : ixAt m (k : Nat) = some k := by
  unfold ixAt
  rw [if_pos (by omega), if_pos (by omega)]
  simp
theorem ix_at {xs : List D} {k : Nat} {d : D} (h : xs[k]? = some d) : ixP (.tuple xs) (.int (k : Nat)) = some d := by
  have hk := (List.getElem?_eq_some_iff.mp h).1
  simp only [ixP, ixAt_nat hk, Option.bind_some, h]
theorem ixL_at {xs : List D} {k : Nat} {d : D} (h : xs[k]? = some d) : ixP (.list xs) (.int (k : Nat)) = some d := by
  have hk := (List.getElem?_eq_some_iff.mp h).1
  simp only [ixP, ixAt_nat hk, Option.bind_some, h]
theorem slH_nat (xs : List D) (k : Nat) : slH (.tuple xs) (.int (k : Nat)) = some (.tuple (xs.take k)) := by
  simp only [slH, slP, cut, clip]
  rw [if_neg (by omega)]
  simp
theorem slL_nat (xs : List D) (k : Nat) : slL (.tuple xs) (.int (k : Nat)) = some (.tuple (xs.drop k)) := by
  simp only [slL, slP, cut, clip]
  rw [if_neg (by omega)]
  simp only [Int.toNat_natCast]
  by_cases h : k ≤ xs.length
  · rw [Nat.min_eq_left h, List.take_of_length_le (by rw [List.length_drop]; exact Nat.le_refl _)]
  · rw [Nat.min_eq_right (by omega), List.drop_of_length_le (Nat.le_refl _), List.drop_of_length_le (by omega), List.take_nil]
theorem add_tup (xs ys : List D) (h : xs.length + ys.length ≤ zL) : addP (.tuple xs) (.tuple ys) = some (.tuple (xs ++ ys)) := by
  simp only [addP, h, if_true]
end Rx

set_option linter.all false
set_option maxRecDepth 100000
set_option autoImplicit false
namespace Rx
open PySem
/-! ### moving one past another -/
theorem mv_mv {q : Int × Int} (h : q.1 ≠ q.2) (x : Int) : mv q (mv q x) = x := by
  unfold mv
  by_cases h1 : x = q.1
  · subst h1; simp [h.symm]
  · by_cases h2 : x = q.2
    · subst h2; simp [h1]
    · simp [h1, h2]
theorem mv_inj {q : Int × Int} (h : q.1 ≠ q.2) {x y : Int} (e : mv q x = mv q y) : x = y := by rw [← mv_mv h x, e, mv_mv h y]
theorem mv_in {s : Int} {q : Int × Int} (h : Ok s q) {x : Int} (hx : 0 ≤ x ∧ x < s) : 0 ≤ mv q x ∧ mv q x < s := by
  unfold Ok at h
  unfold mv
  split
  · omega
  · split <;> omega
theorem Ok.ne {s : Int} {q : Int × Int} (h : Ok s q) : q.1 ≠ q.2 := by unfold Ok at h; omega
theorem cj_ok {s : Int} {q p : Int × Int} (hq : Ok s q) (hp : Ok s p) : Ok s (cj q p) := by
  have h1 := mv_in hq (x := p.1) (by unfold Ok at hp; omega)
  have h2 := mv_in hq (x := p.2) (by unfold Ok at hp; omega)
  have h3 : mv q p.1 ≠ mv q p.2 := fun e => hp.ne (mv_inj hq.ne e)
  unfold cj Ok
  split <;> simp only <;> omega
theorem cj_fst {q p : Int × Int} (h : mv q p.1 ≤ mv q p.2) : cj q p = (mv q p.1, mv q p.2) := by unfold cj; rw [if_pos h]
theorem cj_snd {q p : Int × Int} (h : ¬ mv q p.1 ≤ mv q p.2) : cj q p = (mv q p.2, mv q p.1) := by unfold cj; rw [if_neg h]
theorem cj_cj {q p : Int × Int} (hq : q.1 ≠ q.2) (hp : p.1 < p.2) : cj q (cj q p) = p := by
  by_cases h : mv q p.1 ≤ mv q p.2
  · rw [cj_fst h, cj]
    simp only [mv_mv hq]
    rw [if_pos (by omega)]
  · rw [cj_snd h, cj]
    simp only [mv_mv hq]
    rw [if_neg (by omega)]
theorem mv_cj {q p : Int × Int} (hq : q.1 ≠ q.2) (hp : p.1 ≠ p.2) (x : Int) : mv (cj q p) (mv q x) = mv q (mv p x) := by
  have hi : ∀ y, (mv q x = mv q y) ↔ x = y := fun y => ⟨mv_inj hq, fun e => by rw [e]⟩
  by_cases h : mv q p.1 ≤ mv q p.2
  · rw [cj_fst h]
    show (if mv q x = mv q p.1 then mv q p.2 else if mv q x = mv q p.2 then mv q p.1 else mv q x) = mv q (if x = p.1 then p.2 else if x = p.2 then p.1 else x)
    simp only [hi]
    by_cases h1 : x = p.1
    · simp [h1]
    · by_cases h2 : x = p.2
      · simp only [h2, if_true]; rw [if_neg (fun e => hp e.symm), if_neg (fun e => hp e.symm)]
      · simp [h1, h2]
  · rw [cj_snd h]
    show (if mv q x = mv q p.2 then mv q p.1 else if mv q x = mv q p.1 then mv q p.2 else mv q x) = mv q (if x = p.1 then p.2 else if x = p.2 then p.1 else x)
    simp only [hi]
    by_cases h1 : x = p.1
    · simp [h1, hp]
    · by_cases h2 : x = p.2
      · simp only [h2, if_true]; rw [if_neg (fun e => hp e.symm)]
      · simp [h1, h2]
theorem sem_later {b e : List (Int × Int)} {p q : Int × Int} (hq : q.1 ≠ q.2) (hp : p.1 ≠ p.2) (x : Int) : sem (b ++ q :: cj q p :: e) x = sem (b ++ p :: q :: e) x := by
  simp only [sem_app, sem_cons, mv_cj hq hp]
theorem sem_earlier {b e : List (Int × Int)} {p q : Int × Int} (hq : q.1 ≠ q.2) (hp : p.1 ≠ p.2) (x : Int) : sem (b ++ cj p q :: p :: e) x = sem (b ++ p :: q :: e) x := by
  simp only [sem_app, sem_cons]
  have := mv_cj hp hq (mv p (sem b x))
  rw [mv_mv hp] at this
  rw [this, mv_mv hp]
/-! ### rows cut at a place -/
section
variable (b e : List (Int × Int)) (p q : Int × Int)
theorem at0 : ixP (dR (b ++ p :: q :: e)) (.int (b.length : Nat)) = some (pr p) := ix_at (by simp)
theorem at1 : ixP (dR (b ++ p :: q :: e)) (.int ((b.length : Nat) + 1)) = some (pr q) := by
  have := ix_at (xs := (b ++ p :: q :: e).map pr) (k := b.length + 1) (d := pr q) (by simp [List.getElem?_append_right])
  exact this
theorem upto : slH (dR (b ++ p :: q :: e)) (.int (b.length : Nat)) = some (dR b) := by
  unfold dR; rw [slH_nat]; simp [List.take_append]
theorem from2 : slL (dR (b ++ p :: q :: e)) (.int ((b.length : Nat) + 2)) = some (dR e) := by
  have := slL_nat ((b ++ p :: q :: e).map pr) (b.length + 2)
  unfold dR
  rw [show ((b.length : Int) + 2) = ((b.length + 2 : Nat) : Int) by omega, this]
  simp [List.drop_append]
end
theorem add_dR {a b : List (Int × Int)} (h : a.length + b.length ≤ zL) : addP (dR a) (dR b) = some (dR (a ++ b)) := by
  unfold dR; rw [add_tup _ _ (by simpa using h), List.map_append]
theorem tup_dR (p q : Int × Int) : tupP [pr p, pr q] = some (dR [p, q]) := rfl
theorem tup1_dR (p : Int × Int) : tupP [pr p] = some (dR [p]) := rfl
theorem cut_at {α : Type} {r : List α} {k : Nat} (h : k + 1 < r.length) : ∃ b p q e, r = b ++ p :: q :: e ∧ b.length = k := by
  refine ⟨r.take k, r[k], r[k + 1], r.drop (k + 2), ?_, by rw [List.length_take]; omega⟩
  rw [← List.drop_eq_getElem_cons (by omega), ← List.drop_eq_getElem_cons (by omega), List.take_append_drop]
theorem OkR.parts {s : Int} {b e : List (Int × Int)} {p q : Int × Int} (h : OkR s (b ++ p :: q :: e)) : OkR s b ∧ Ok s p ∧ Ok s q ∧ OkR s e :=
  ⟨fun x hx => h x (by simp [hx]), h p (by simp), h q (by simp), fun x hx => h x (by simp [hx])⟩
theorem OkR.mk {s : Int} {b e : List (Int × Int)} {p q : Int × Int} (h1 : OkR s b) (h2 : Ok s p) (h3 : Ok s q) (h4 : OkR s e) : OkR s (b ++ p :: q :: e) := fun x hx => by
  simp at hx
  rcases hx with h | h | h | h
  · exact h1 x h
  · rw [h]; exact h2
  · rw [h]; exact h3
  · exact h4 x h
section
variable {T : Tb} {n : Nat} {w : Om}
theorem later_ok (h : T i_moved = some f_moved) (h2 : T i_through = some f_through) (h3 : T i_later_of = some f_later_of) (b e : List (Int × Int)) (p q : Int × Int) (hl : b.length + e.length ≤ 1000) :
    run T (n + 3) i_later_of [dR (b ++ p :: q :: e), .int (b.length : Nat)] w = some (.val (dR (b ++ q :: cj q p :: e)), w) := by
  rw [run_at h3 rfl (by decide)]
  have a1 := add_dR (a := b) (b := [q, cj q p]) (by simp; unfold zL; omega)
  have a2 := add_dR (a := b ++ [q, cj q p]) (b := e) (by simp; unfold zL; omega)
  simp [f_later_of, b_later_of, fin, at0, at1, upto, from2, setAll, thr_ok h h2, tup_dR, a1, a2]
theorem earlier_ok (h : T i_moved = some f_moved) (h2 : T i_through = some f_through) (h3 : T i_earlier_of = some f_earlier_of) (b e : List (Int × Int)) (p q : Int × Int) (hl : b.length + e.length ≤ 1000) :
    run T (n + 3) i_earlier_of [dR (b ++ p :: q :: e), .int (b.length : Nat)] w = some (.val (dR (b ++ cj p q :: p :: e)), w) := by
  rw [run_at h3 rfl (by decide)]
  have a1 := add_dR (a := b) (b := [cj p q, p]) (by simp; unfold zL; omega)
  have a2 := add_dR (a := b ++ [cj p q, p]) (b := e) (by simp; unfold zL; omega)
  simp [f_earlier_of, b_earlier_of, fin, at0, at1, upto, from2, setAll, thr_ok h h2, tup_dR, a1, a2]
theorem cnum_ok (h : T i_in_range = some f_in_range) (h2 : T i_check_number = some f_check_number) (r : List (Int × Int)) (k : Int) (hk : 0 ≤ k ∧ k ≤ r.length - 2) : run T (n + 2) i_check_number [dR r, .int k] w = some (.val .none, w) := by
  rw [run_at h2 rfl (by decide)]
  simp [f_check_number, b_check_number, fin, lenP_dR, inr_int h, hk]
theorem cnum_no (h : T i_in_range = some f_in_range) (h2 : T i_check_number = some f_check_number) (r : List (Int × Int)) (d : D) (hd : d = .none ∨ d = .bool true ∨ ∃ k : Int, d = .int k ∧ ¬ (0 ≤ k ∧ k ≤ r.length - 2)) : run T (n + 2) i_check_number [dR r, d] w = some (.exc ⟨4, .none⟩, w) := by
  rw [run_at h2 rfl (by decide)]
  rcases hd with rfl | rfl | ⟨k, rfl, hk⟩
  · simp [f_check_number, b_check_number, fin, lenP_dR, inr_none h]
  · simp [f_check_number, b_check_number, fin, lenP_dR, inr_bool h]
  · have e : decide (0 ≤ k ∧ k ≤ (r.length : Int) - 2) = false := decide_eq_false hk
    simp [f_check_number, b_check_number, fin, lenP_dR, inr_int h]
    by_cases h5 : 0 ≤ k
    · have h6 : ¬ k ≤ (r.length : Int) - 2 := fun z => hk ⟨h5, z⟩
      simp [h5, h6]
    · simp [h5]
end
end Rx

set_option linter.all false
set_option maxRecDepth 100000
set_option autoImplicit false
namespace Rx
open PySem
section
variable {T : Tb} {n : Nat} {w : Om}
/-! ### drawn numbers -/
theorem lcell_ok (h : T i__law_cell = some f__law_cell) (ns : List Int) (k : Int) (hk : 0 ≤ k) : ∃ v : Int, run T (n + 1) i__law_cell [dScript ns, .int k] w = some (.val (.int v), w) := by
  rw [run_at h rfl (by decide)]
  have e1 : lenP (dScript ns) = some (.int ns.length) := by simp [lenP, dScript]
  by_cases h1 : k < ns.length
  · have hn : k.toNat < ns.length := by omega
    have e2 : ixP (dScript ns) (.int k) = some (.int ns[k.toNat]) := by
      have : ixAt ns.length k = some k.toNat := by unfold ixAt; rw [if_pos hk, if_pos h1]
      simp [ixP, dScript, this, hn]
    exact ⟨ns[k.toNat], by simp [f__law_cell, b__law_cell, fin, e1, e2, h1]⟩
  · exact ⟨0, by simp [f__law_cell, b__law_cell, fin, e1, h1]⟩
/-- sixty numbers below a thousand -/
def Drawn (ds : List Int) : Prop := ds.length = 60 ∧ ∀ x ∈ ds, 0 ≤ x ∧ x < 1000
theorem small_lit {i : Int} (h : small i = true) (j : Int) : mulP (.int j) (.int i) = some (.int (j * i)) ∧ mulP (.int i) (.int j) = some (.int (i * j)) := by
  simp [mulP, h]
theorem lrow_ok (h : T i__law_cell = some f__law_cell) (h2 : T i__law_row = some f__law_row) (ns : List Int) (k : Int) (hk : 0 ≤ k) : ∃ ds, Drawn ds ∧ run T (n + 2) i__law_row [dScript ns, .int k] w = some (.val (.list (ds.map .int)), w) := by
  obtain ⟨v0, e0⟩ := lcell_ok (T := T) (n := n) (w := w) h ns k hk
  obtain ⟨st, e, p⟩ := for_rng (c := run T (n + 1)) (w := w) (tg := .nm 4) (σ := Int × List Int × Option D) (body := sIf (dPrim .lt (dCons (dCall 28 (dCons (dVar 0) (dCons (dVar 1) dNil))) (dCons (dPrim .pow (dCons (dC (.int 10)) (dCons (dC (.int 18)) dNil))) dNil)))
      (sSeq (sAsg 2 (dPrim .mod (dCons (dPrim .add (dCons (dPrim .add (dCons (dPrim .add (dCons (dPrim .mul (dCons (dVar 2) (dCons (dC (.int 48271)) dNil))) (dCons (dPrim .mul (dCons (dC (.int 131)) (dCons (dVar 4) dNil))) dNil))) (dCons (dC (.int 7)) dNil))) (dCons (dCall 28 (dCons (dVar 0) (dCons (dPrim .mod (dCons (dPrim .add (dCons (dPrim .add (dCons (dVar 1) (dCons (dC (.int 1)) dNil))) (dCons (dVar 4) dNil))) (dCons (dC (.int 20)) dNil))) dNil))) dNil))) (dCons (dC (.int 2147483647)) dNil))))
        (sAppend 3 (dPrim .mod (dCons (dPrim .fdiv (dCons (dVar 2) (dCons (dC (.int 11)) dNil))) (dCons (dC (.int 1000)) dNil)))))
      (sSeq (sAppend 3 (dPrim .mod (dCons (dVar 2) (dCons (dC (.int 1000)) dNil))))
        (sAsg 2 (dPrim .fdiv (dCons (dVar 2) (dCons (dC (.int 1000)) dNil))))))
    (fun st => [some (dScript ns), some (.int k), some (.int st.1), some (.list (st.2.1.map .int)), st.2.2]) (fun j st => st.2.1.length = j ∧ ∀ x ∈ st.2.1, 0 ≤ x ∧ x < 1000) 0 60 (v0, [], none) ⟨rfl, by simp⟩
    (fun j st hp hj => by
      obtain ⟨cell, acc, o⟩ := st
      obtain ⟨hp1, hp2⟩ := hp
      simp only at hp1 hp2
      have hz : acc.length < zL := by unfold zL; omega
      have hpw : powP (.int 10) (.int 18) = some (.int 1000000000000000000) := by rfl
      have hm1 := (small_lit (i := 48271) rfl cell).1
      have hm2 := (small_lit (i := 131) rfl (0 + (j : Nat))).2
      have md : ∀ a b : Int, 0 < b → modP (.int a) (.int b) = some (.int (a % b)) := fun a b hb => by simp [modP, hb]
      have fd : ∀ a b : Int, 0 < b → b < 1073741824 → fdivP (.int a) (.int b) = some (.int (a / b)) := fun a b hb hb2 => by simp [fdivP, hb, hb2]
      obtain ⟨u, eu⟩ := lcell_ok (T := T) (n := n) (w := w) h ns ((k + 1 + (0 + (j : Nat))) % 20) (by omega)
      have ap : ∀ x : Int, sAppend 3 (dC (.int x)) = sAppend 3 (dC (.int x)) := fun _ => rfl
      by_cases hc : v0 < 1000000000000000000
      · refine ⟨_, ((cell * 48271 + 131 * (0 + (j : Nat)) + 7 + u) % 2147483647, acc ++ [(cell * 48271 + 131 * (0 + (j : Nat)) + 7 + u) % 2147483647 / 11 % 1000], some (.int (0 + (j : Nat)))), rfl, ?_, ?_, ?_⟩
        · simp only [Int.zero_add] at *
          simp [e0, hpw, hc, hm1, hm2, md, fd, eu, sAppend, plain, hz]
        · simp [hp1]
        · intro x hx
          rcases List.mem_append.mp hx with hx | hx
          · exact hp2 x hx
          · simp at hx; omega
      · refine ⟨_, (cell / 1000, acc ++ [cell % 1000], some (.int (0 + (j : Nat)))), rfl, ?_, ?_, ?_⟩
        · simp only [Int.zero_add] at *
          simp [e0, hpw, hc, md, fd, sAppend, plain, hz]
        · simp [hp1]
        · intro x hx
          rcases List.mem_append.mp hx with hx | hx
          · exact hp2 x hx
          · simp at hx; omega)
  obtain ⟨cell, ds, o⟩ := st
  refine ⟨ds, p, ?_⟩
  rw [run_at h2 rfl (by decide)]
  have e2 : iRng (dCons (dC (.int 60)) dNil) (run T (n + 1)) [some (dScript ns), some (.int k), some (.int v0), some (.list []), none] w = some (.vals (rangeD 0 60), w) := e_iRng1 _ _ _ _ _ (by simp) rfl
  simp only [List.map_nil] at e
  simp [f__law_row, b__law_row, fin, e0, lstP, zL, e2, e]
theorem Drawn.at_ {ds : List Int} (h : Drawn ds) (k : Nat) (hk : k < 60) : ∃ x : Int, (0 ≤ x ∧ x < 1000) ∧ ixP (.list (ds.map .int)) (.int (k : Nat)) = some (.int x) := by
  have hl : k < ds.length := by rw [h.1]; exact hk
  exact ⟨ds[k], h.2 _ (List.getElem_mem hl), ixL_at (by simp [hl])⟩
/-! ### all pairs -/
def pairsL (s : Nat) : List (Int × Int) := (List.range s).flatMap fun i => (List.range (s - (i + 1))).map fun j => ((i : Nat), ((i + 1 + j : Nat) : Int))
theorem pairs_ok (h : T i__law_pairs = some f__law_pairs) (s : Nat) (hs : 2 ≤ s ∧ s ≤ 6) : run T (n + 1) i__law_pairs [.int (s : Nat)] w = some (.val (.list ((pairsL s).map pr)), w) := by
  rw [run_at h rfl (by decide)]
  have : s = 2 ∨ s = 3 ∨ s = 4 ∨ s = 5 ∨ s = 6 := by omega
  rcases this with rfl | rfl | rfl | rfl | rfl <;> rfl
theorem pairsL_ok {s : Nat} {p : Int × Int} (h : p ∈ pairsL s) : Ok s p := by
  unfold pairsL at h
  rw [List.mem_flatMap] at h
  obtain ⟨i, hi, h⟩ := h
  rw [List.mem_map] at h
  obtain ⟨j, hj, rfl⟩ := h
  rw [List.mem_range] at hi hj
  unfold Ok
  simp only
  omega
/-! ### what the law computes of a list -/
theorem lresult_ok (h : T i__law_to = some f__law_to) (h2 : T i__law_result = some f__law_result) (s : Int) (hs : 0 ≤ s ∧ s ≤ 1000) (r : List (Int × Int)) :
    run T (n + 2) i__law_result [.int s, dR r] w = some (.val (.tuple ((resL s r).map .int)), w) := by
  rw [run_at h2 rfl (by decide)]
  have hi : inR s = true := by unfold inR; simp; omega
  have hz : (s.toNat) ≤ zL := by unfold zL; omega
  have e1 : rng1P (.int s) = some (.list (rangeD 0 s)) := by
    have h9 : s ≤ (zL : Int) := by unfold zL; omega
    simp only [rng1P, hi, decide_eq_true h9, Bool.and_self, if_true]
  have go : ∀ (r : List (Int × Int)) (f : List Int) (o4 : Option D) (rd : D), f.length ≤ zL → ∃ o3, forGo (run T (n + 1)) (.nm 3) (sAsg 2 (dComp (iSeq (dVar 2)) (.nm 4) none (dCall 31 (dCons (dVar 3) (dCons (dVar 4) dNil))) [4])) (r.map pr) [some (.int s), some rd, some (.list (f.map .int)), o4, none] w
      = some (.next [some (.int s), some rd, some (.list ((f.map (sem r)).map .int)), o3, none], w) := by
    intro r
    induction r with
    | nil =>
      intro f o4 rd _
      refine ⟨o4, ?_⟩
      have : f.map (sem []) = f := by
        have : sem [] = id := rfl
        rw [this, List.map_id]
      rw [this]; rfl
    | cons p r ih =>
      intro f o4 rd hf
      obtain ⟨o3, e⟩ := ih (f.map (mv p)) (some (pr p)) rd (by rw [List.length_map]; exact hf)
      refine ⟨o3, ?_⟩
      have hc : dComp (iSeq (dVar 2)) (.nm 4) none (dCall 31 (dCons (dVar 3) (dCons (dVar 4) dNil))) [4] (run T (n + 1)) [some (.int s), some rd, some (.list (f.map .int)), some (pr p), none] w = some (.val (.list (f.map fun x => .int (mv p x))), w) :=
        dComp_map (fun x => .int (mv p x)) .int f (by simp) (fun x _ => ⟨_, rfl, by simp [wipeR, lto_ok h], rfl⟩) hf
      rw [List.map_cons, forGo]
      simp [bindT, hc]
      rw [List.map_map] at e
      have e' := e
      simp only [List.map_map] at e' ⊢
      exact e'
  obtain ⟨o3, e⟩ := go r ((List.range (s - 0).toNat).map fun i => (0 : Int) + (i : Nat)) none (dR r) (by rw [List.length_map, List.length_range, Int.sub_zero]; exact hz)
  rw [← rangeD_map] at e
  have e5 : ((List.range (s - 0).toNat).map fun i => (0 : Int) + (i : Nat)).map (sem r) = resL s r := by
    unfold resL
    rw [List.map_map, Int.sub_zero]
    apply List.map_congr_left
    intro a _
    simp
  rw [e5] at e
  simp [dR] at e
  simp [f__law_result, b__law_result, fin, e1, dR, e]
end
end Rx

set_option linter.all false
set_option maxRecDepth 100000
set_option autoImplicit false
namespace Rx
open PySem
def star (s : Int) : List (Int × Int) := (List.range (s - 1).toNat).map fun i => ((0 : Int), 1 + ((i : Nat) : Int))
theorem star_ok (s : Int) : OkR s (star s) := fun p hp => by
  unfold star at hp
  rw [List.mem_map] at hp
  obtain ⟨i, hi, rfl⟩ := hp
  rw [List.mem_range] at hi
  unfold Ok; simp only; omega
theorem star_len {s : Int} (h : 1 ≤ s) : ((star s).length : Int) = s - 1 := by unfold star; rw [List.length_map, List.length_range]; omega
def dL (r : List (Int × Int)) : D := .list (r.map pr)
section
variable (b e : List (Int × Int)) (p q x : Int × Int)
theorem lat0 : ixP (dL (b ++ p :: q :: e)) (.int (b.length : Nat)) = some (pr p) := ixL_at (by simp)
theorem lat1 : ixP (dL (b ++ p :: q :: e)) (.int ((b.length : Nat) + 1)) = some (pr q) := by
  have := ixL_at (xs := (b ++ p :: q :: e).map pr) (k := b.length + 1) (d := pr q) (by simp [List.getElem?_append_right])
  exact this
theorem set0 : ((b ++ p :: q :: e).map pr).set b.length (pr x) = (b ++ x :: q :: e).map pr := by
  rw [List.map_append, List.set_append_right _ _ (by simp)]
  simp
theorem set1 : ((b ++ p :: q :: e).map pr).set (b.length + 1) (pr x) = (b ++ p :: x :: e).map pr := by
  rw [List.map_append, List.set_append_right _ _ (by simp)]
  simp
theorem ixa0 : ixAt ((b ++ p :: q :: e).map pr).length (b.length : Nat) = some b.length := ixAt_nat (by simp)
theorem ixa1 : ixAt ((b ++ p :: q :: e).map pr).length ((b.length : Nat) + 1) = some (b.length + 1) := ixAt_nat (k := b.length + 1) (by simp)
end
/-- x[k] = v, over the env r whose slot i holds a list of pairs -/
theorem setIx_ev {c : Cf} {r : Env} {w : Om} {i : Nat} {k e : Ex} {d : D} {j : Int} {xs : List D} {m : Nat} (h1 : e c r w = some (.val d, w)) (h2 : r[i]? = some (some (.list xs))) (h3 : k c r w = some (.val (.int j), w)) (hp : plain d = true) (h4 : ixAt xs.length j = some m) : sSetIx i k e c r w = some (.next (r.set i (some (.list (xs.set m d)))), w) := by
  unfold sSetIx
  rw [h1]
  simp only
  rw [h2]
  simp only
  rw [h3]
  simp only [hp, if_true]
  rw [h4]
  rfl
section
variable {T : Tb} {n : Nat} {w : Om}
def rnB : Sx := sSeq (sAsg 6 (dPrim .mod (dCons (dPrim .ix (dCons (dVar 3) (dCons (dVar 5) dNil))) (dCons (dPrim .sub (dCons (dVar 2) (dCons (dC (.int 2)) dNil))) dNil))))
    (sSeq (sAsgT (.tp [(.nm 7), (.nm 8)]) (dPrim .tup (dCons (dPrim .ix (dCons (dVar 4) (dCons (dVar 6) dNil))) (dCons (dPrim .ix (dCons (dVar 4) (dCons (dPrim .add (dCons (dVar 6) (dCons (dC (.int 1)) dNil))) dNil))) dNil))))
    (sIf (dPrim .eq (dCons (dPrim .mod (dCons (dPrim .ix (dCons (dVar 3) (dCons (dPrim .add (dCons (dC (.int 20)) (dCons (dVar 5) dNil))) dNil))) (dCons (dC (.int 2)) dNil))) (dCons (dC (.int 0)) dNil)))
    (sSeq (sSetIx 4 (dVar 6) (dVar 8))
    (sSetIx 4 (dPrim .add (dCons (dVar 6) (dCons (dC (.int 1)) dNil))) (dPrim .tuple (dCons (dPrim .sorted (dCons (dComp (iSeq (dVar 7)) (.nm 9) none (dCall 31 (dCons (dVar 8) (dCons (dVar 9) dNil))) [9]) dNil)) dNil))))
    (sSeq (sSetIx 4 (dVar 6) (dPrim .tuple (dCons (dPrim .sorted (dCons (dComp (iSeq (dVar 8)) (.nm 9) none (dCall 31 (dCons (dVar 7) (dCons (dVar 9) dNil))) [9]) dNil)) dNil)))
    (sSetIx 4 (dPrim .add (dCons (dVar 6) (dCons (dC (.int 1)) dNil))) (dVar 7)))))
theorem rnB_ok (h : T i__law_to = some f__law_to) {s k : Int} {ds : List Int} {ns : List Int} (hd : Drawn ds) (j : Nat) (hj : j < 16) (b e : List (Int × Int)) (p q : Int × Int) (hk : ∃ a : Int, ixP (.list (ds.map .int)) (.int (j : Nat)) = some (.int a) ∧ a % (s - 2) = (b.length : Nat)) (hs : 2 < s) (o6 o7 o8 : Option D) :
    ∃ p' q' o6' o7' o8', ((p' = q ∧ q' = cj q p) ∨ (p' = cj p q ∧ q' = p)) ∧ rnB (run T (n + 1)) [some (dScript ns), some (.int k), some (.int s), some (.list (ds.map .int)), some (dL (b ++ p :: q :: e)), some (.int (j : Nat)), o6, o7, o8, none] w =
      some (.next [some (dScript ns), some (.int k), some (.int s), some (.list (ds.map .int)), some (dL (b ++ p' :: q' :: e)), some (.int (j : Nat)), o6', o7', o8', none], w) := by
  obtain ⟨a, ha, hak⟩ := hk
  obtain ⟨y, hy, ey⟩ := hd.at_ (20 + j) (by omega)
  have ey2 : ixP (.list (ds.map .int)) (.int (20 + (j : Nat))) = some (.int y) := by
    have : ((20 + j : Nat) : Int) = 20 + (j : Int) := by omega
    rw [← this]; exact ey
  have m1 : modP (.int a) (.int (s - 2)) = some (.int (b.length : Nat)) := by
    have : 0 < s - 2 := by omega
    simp only [modP, this, if_true, hak]
  have m2 : modP (.int y) (.int 2) = some (.int (y % 2)) := by simp [modP]
  have t1 : tupP [pr p, pr q] = some (.tuple [pr p, pr q]) := rfl
  let env : Env := [some (dScript ns), some (.int k), some (.int s), some (.list (ds.map .int)), some (dL (b ++ p :: q :: e)), some (.int (j : Nat)), some (.int (b.length : Nat)), some (pr p), some (pr q), none]
  by_cases hc : y % 2 = 0
  · refine ⟨q, cj q p, some (.int (b.length : Nat)), some (pr p), some (pr q), .inl ⟨rfl, rfl⟩, ?_⟩
    have s1 : sSetIx 4 (dVar 6) (dVar 8) (run T (n + 1)) env w = some (.next (env.set 4 (some (dL (b ++ q :: q :: e)))), w) := by
      rw [setIx_ev (d := pr q) (j := (b.length : Nat)) rfl rfl rfl rfl (ixa0 b e p q), set0]; rfl
    have s2 : sSetIx 4 (dPrim .add (dCons (dVar 6) (dCons (dC (.int 1)) dNil))) (dPrim .tuple (dCons (dPrim .sorted (dCons (dComp (iSeq (dVar 7)) (.nm 9) none (dCall 31 (dCons (dVar 8) (dCons (dVar 9) dNil))) [9]) dNil)) dNil)) (run T (n + 1)) (env.set 4 (some (dL (b ++ q :: q :: e)))) w = some (.next ((env.set 4 (some (dL (b ++ q :: q :: e)))).set 4 (some (dL (b ++ q :: cj q p :: e)))), w) := by
      rw [setIx_ev (d := pr (cj q p)) (j := (b.length : Nat) + 1) (cj_comp (fun x => lto_ok h n q x w) rfl rfl (show 9 < 10 by decide) (by decide)) rfl rfl rfl (ixa1 b e q q), set1]; rfl
    simp only [env, List.set_cons_succ, List.set_cons_zero] at s1 s2
    simp [rnB, ha, m1, lat0, lat1, t1, bindT, bindTs, ey2, m2, hc, s1, s2]
  · refine ⟨cj p q, p, some (.int (b.length : Nat)), some (pr p), some (pr q), .inr ⟨rfl, rfl⟩, ?_⟩
    have s1 : sSetIx 4 (dVar 6) (dPrim .tuple (dCons (dPrim .sorted (dCons (dComp (iSeq (dVar 8)) (.nm 9) none (dCall 31 (dCons (dVar 7) (dCons (dVar 9) dNil))) [9]) dNil)) dNil)) (run T (n + 1)) env w = some (.next (env.set 4 (some (dL (b ++ cj p q :: q :: e)))), w) := by
      rw [setIx_ev (d := pr (cj p q)) (j := (b.length : Nat)) (cj_comp (fun x => lto_ok h n p x w) rfl rfl (show 9 < 10 by decide) (by decide)) rfl rfl rfl (ixa0 b e p q), set0]; rfl
    have s2 : sSetIx 4 (dPrim .add (dCons (dVar 6) (dCons (dC (.int 1)) dNil))) (dVar 7) (run T (n + 1)) (env.set 4 (some (dL (b ++ cj p q :: q :: e)))) w = some (.next ((env.set 4 (some (dL (b ++ cj p q :: q :: e)))).set 4 (some (dL (b ++ cj p q :: p :: e)))), w) := by
      rw [setIx_ev (d := pr p) (j := (b.length : Nat) + 1) rfl rfl rfl rfl (ixa1 b e (cj p q) q), set1]; rfl
    simp only [env, List.set_cons_succ, List.set_cons_zero] at s1 s2
    simp [rnB, ha, m1, lat0, lat1, t1, bindT, bindTs, ey2, m2, hc, s1, s2]
theorem round_ok (h0 : T i__law_cell = some f__law_cell) (h1 : T i__law_row = some f__law_row) (h : T i__law_to = some f__law_to) (h2 : T i__law_round = some f__law_round) (ns : List Int) (k : Int) (hk : 0 ≤ k) (s : Int) (hs : 2 ≤ s ∧ s ≤ 6) :
    ∃ r, OkR s r ∧ (r.length : Int) = s - 1 ∧ (∀ x, sem r x = sem (star s) x) ∧ run T (n + 3) i__law_round [dScript ns, .int k, .int s] w = some (.val (dR r), w) := by
  obtain ⟨ds, hd, ed⟩ := lrow_ok (T := T) (n := n) (w := w) h0 h1 ns k hk
  have hi : inR s = true := by unfold inR; simp; omega
  have hc : dComp (iRng (dCons (dC (.int 1)) (dCons (dVar 2) dNil))) (.nm 9) none (dPrim .tup (dCons (dC (.int 0)) (dCons (dVar 9) dNil))) [9] (run T (n + 2)) [some (dScript ns), some (.int k), some (.int s), some (.list (ds.map .int)), none, none, none, none, none, none] w = some (.val (dL (star s)), w) := by
    rw [dComp_map (fun i : Nat => pr (0, 1 + (i : Nat))) (fun i : Nat => .int (1 + (i : Nat))) (List.range (s - 1).toNat) (e_iRng2 _ _ _ _ _ 1 s (by simp) (by simp) rfl hi) (fun i _ => ⟨_, rfl, by simp [wipeR, tupP, plain, zL, pr], rfl⟩) (by rw [List.length_range]; unfold zL; omega)]
    unfold dL star; rw [List.map_map]; rfl
  obtain ⟨m, hm, em⟩ : ∃ m : Int, ((2 < s ∧ m = 16) ∨ (s = 2 ∧ m = 0)) ∧ iRng (dCons (dIte (dPrim .gt (dCons (dVar 2) (dCons (dC (.int 2)) dNil))) (dC (.int 16)) (dC (.int 0))) dNil) (run T (n + 2)) [some (dScript ns), some (.int k), some (.int s), some (.list (ds.map .int)), some (dL (star s)), none, none, none, none, none] w = some (.vals (rangeD 0 m), w) := by
    by_cases h9 : 2 < s
    · exact ⟨16, .inl ⟨h9, rfl⟩, e_iRng1 _ _ _ _ _ (by simp [h9]) rfl⟩
    · exact ⟨0, .inr ⟨by omega, rfl⟩, e_iRng1 _ _ _ _ _ (by simp [h9]) rfl⟩
  obtain ⟨st, e, p1, p2, p3⟩ := for_rng (c := run T (n + 2)) (w := w) (tg := .nm 5) (body := rnB) (σ := List (Int × Int) × Option D × Option D × Option D × Option D) (fun st => [some (dScript ns), some (.int k), some (.int s), some (.list (ds.map .int)), some (dL st.1), st.2.1, st.2.2.1, st.2.2.2.1, st.2.2.2.2, none])
    (fun _ st => OkR s st.1 ∧ (st.1.length : Int) = s - 1 ∧ ∀ x, sem st.1 x = sem (star s) x) 0 m (star s, none, none, none, none) ⟨star_ok s, star_len (by omega), fun _ => rfl⟩
    (fun j st hp hj => by
      obtain ⟨r, o5, o6, o7, o8⟩ := st
      obtain ⟨q1, q2, q3⟩ := hp
      simp only at q1 q2 q3
      rcases hm with ⟨hm, rfl⟩ | ⟨_, rfl⟩
      · have hj16 : j < 16 := by omega
        obtain ⟨a, ha, ea⟩ := hd.at_ j (by omega)
        obtain ⟨b, p, q, e, rfl, hb⟩ := cut_at (r := r) (k := (a % (s - 2)).toNat) (by have := Int.emod_lt_of_pos a (show 0 < s - 2 by omega); have := Int.emod_nonneg a (show s - 2 ≠ 0 by omega); omega)
        obtain ⟨ok1, ok2, ok3, ok4⟩ := q1.parts
        obtain ⟨p', q', o6', o7', o8', hpq, ev⟩ := rnB_ok (T := T) (n := n + 1) (w := w) (k := k) (ns := ns) (s := s) h hd j hj16 b e p q ⟨a, ea, by have := Int.emod_nonneg a (show s - 2 ≠ 0 by omega); omega⟩ hm o6 o7 o8
        refine ⟨_, (b ++ p' :: q' :: e, some (.int (j : Nat)), o6', o7', o8'), rfl, ?_, ?_, ?_, ?_⟩
        · simp only [Int.zero_add, List.set_cons_succ, List.set_cons_zero]; exact ev
        · rcases hpq with ⟨rfl, rfl⟩ | ⟨rfl, rfl⟩
          · exact .mk ok1 ok3 (cj_ok ok3 ok2) ok4
          · exact .mk ok1 (cj_ok ok2 ok3) ok2 ok4
        · simp only [List.length_append, List.length_cons] at q2 ⊢; exact q2
        · intro x
          rw [← q3 x]
          rcases hpq with ⟨rfl, rfl⟩ | ⟨rfl, rfl⟩
          · exact sem_later ok3.ne ok2.ne x
          · exact sem_earlier ok3.ne ok2.ne x
      · omega)
  obtain ⟨r, o5, o6, o7, o8⟩ := st
  refine ⟨r, p1, p2, p3, ?_⟩
  rw [run_at h2 rfl (by decide)]
  unfold rnB at e
  simp only at e
  have ei : items (dL r) = some (r.map pr) := rfl
  simp [f__law_round, b__law_round, fin, ed, hc, em, e, ei, dR]
end
end Rx

set_option linter.all false
set_option maxRecDepth 100000
set_option autoImplicit false
namespace Rx
open PySem
theorem srt_cj (q p : Int × Int) : sortedP (.list [.int (mv q p.1), .int (mv q p.2)]) = some (.list [.int (cj q p).1, .int (cj q p).2]) := by
  rw [sorted2]
  unfold cj
  by_cases h : mv q p.1 ≤ mv q p.2 <;> simp [h]
theorem pr_of (p : Int × Int) : PyData.tuple [.int p.1, .int p.2] = pr p := rfl
theorem cj_list {c : Cf} {w : Om} {r : Env} {f : Nat} {q p : Int × Int} {i j k : Nat} (hf : ∀ x : Int, c f [pr q, .int x] w = some (.val (.int (mv q x)), w)) (hr : r[i]? = some (some (pr q))) (hp : r[j]? = some (some (pr p))) (hk : k < r.length) (hki : i ≠ k) :
    dComp (iSeq (dVar j)) (.nm k) none (dCall f (dCons (dVar i) (dCons (dVar k) dNil))) [k] c r w = some (.val (.list [.int (mv q p.1), .int (mv q p.2)]), w) := by
  rw [dComp_map (fun x => .int (mv q x)) .int [p.1, p.2] (by simp [hp]; rfl) (fun x hx => ⟨_, rfl, ?_, rfl⟩) (show 2 ≤ zL by decide)]
  · rfl
  · have hk2 : k < ((r.set k none)).length := by rw [List.length_set]; exact hk
    have e1 : ((r.set k none).set k (some (.int x)))[i]? = some (some (pr q)) := by
      rw [List.getElem?_set_ne (fun z => hki z.symm), List.getElem?_set_ne (fun z => hki z.symm)]; exact hr
    have e2 : ((r.set k none).set k (some (.int x)))[k]? = some (some (.int x)) := List.getElem?_set_self hk2
    simp only [wipeR, e_dCall, e_dCons, e_dVar, e_dNil, e1, e2, hf]
theorem lenP_dL (l : List (Int × Int)) : lenP (dL l) = some (.int l.length) := by simp [lenP, dL]
theorem mod_pos {a b : Int} (h : 0 < b) : modP (.int a) (.int b) = some (.int (a % b)) := by simp [modP, h]
theorem pick {l : List (Int × Int)} (h : 0 < l.length) (x : Int) : ∃ p ∈ l, ixP (dL l) (.int (x % (l.length : Int))) = some (pr p) := by
  have h1 := Int.emod_lt_of_pos x (show (0 : Int) < l.length by omega)
  have h2 := Int.emod_nonneg x (show (l.length : Int) ≠ 0 by omega)
  have hk : (x % (l.length : Int)).toNat < l.length := by omega
  refine ⟨l[(x % (l.length : Int)).toNat], List.getElem_mem hk, ?_⟩
  have := ixL_at (xs := l.map pr) (k := (x % (l.length : Int)).toNat) (d := pr l[(x % (l.length : Int)).toNat]) (by simp [hk])
  rw [show (((x % (l.length : Int)).toNat : Nat) : Int) = x % (l.length : Int) by omega] at this
  exact this
theorem pairsL_pos {s : Nat} (h : 2 ≤ s ∧ s ≤ 6) : 0 < (pairsL s).length := by
  have : s = 2 ∨ s = 3 ∨ s = 4 ∨ s = 5 ∨ s = 6 := by omega
  rcases this with rfl | rfl | rfl | rfl | rfl <;> decide
section
variable {T : Tb} {n : Nat} {w : Om}
/-- a drawn list: in range; round, if it was drawn so -/
theorem llist_ok (h0 : T i__law_cell = some f__law_cell) (h1 : T i__law_row = some f__law_row) (h2 : T i__law_to = some f__law_to) (h3 : T i__law_round = some f__law_round) (h4 : T i__law_pairs = some f__law_pairs) (h5 : T i__law_list = some f__law_list) (ns : List Int) (k : Int) (hk : 0 ≤ k) (s : Int) (hs : 2 ≤ s ∧ s ≤ 6) :
    ∃ r, OkR s r ∧ (r.length : Int) = s - 1 ∧ run T (n + 4) i__law_list [dScript ns, .int k, .int s] w = some (.val (dR r), w) := by
  obtain ⟨m, rfl⟩ : ∃ m : Nat, s = (m : Nat) := ⟨s.toNat, by omega⟩
  have hm : 2 ≤ m ∧ m ≤ 6 := by omega
  obtain ⟨ds, hd, ed⟩ := lrow_ok (T := T) (n := n + 1) (w := w) h0 h1 ns k hk
  obtain ⟨r, ok, hl, _, er⟩ := round_ok (T := T) (n := n) (w := w) h0 h1 h2 h3 ns k hk m hs
  have ep := pairs_ok (T := T) (n := n + 2) (w := w) h4 m hm
  replace ep : run T (n + 3) i__law_pairs [.int (m : Nat)] w = some (.val (dL (pairsL m)), w) := ep
  obtain ⟨x50, h50, e50⟩ := hd.at_ 50 (by decide)
  obtain ⟨x51, h51, e51⟩ := hd.at_ 51 (by decide)
  obtain ⟨x52, h52, e52⟩ := hd.at_ 52 (by decide)
  have hrl : 0 < r.length := by omega
  obtain ⟨p, hp, epk⟩ := pick (pairsL_pos hm) x52
  have m50 : modP (.int x50) (.int 3) = some (.int (x50 % 3)) := mod_pos (by decide)
  have m51 : modP (.int x51) (.int r.length) = some (.int (x51 % r.length)) := mod_pos (by omega)
  have m52 : modP (.int x52) (.int (pairsL m).length) = some (.int (x52 % (pairsL m).length)) := mod_pos (by have := pairsL_pos hm; omega)
  by_cases c0 : x50 % 3 = 0
  · refine ⟨r, ok, hl, ?_⟩
    rw [run_at h5 rfl (by decide)]
    simp at e50
    simp [f__law_list, b__law_list, fin, ed, ep, er, e50, m50, c0]
  · by_cases c1 : x50 % 3 = 1
    · have hn1 := Int.emod_lt_of_pos x51 (show (0 : Int) < r.length by omega)
      have hn2 := Int.emod_nonneg x51 (show (r.length : Int) ≠ 0 by omega)
      obtain ⟨j, hj⟩ : ∃ j : Nat, x51 % (r.length : Int) = (j : Nat) := ⟨(x51 % (r.length : Int)).toNat, by omega⟩
      have s1 : slH (dR r) (.int (x51 % r.length)) = some (dR (r.take j)) := by
        rw [hj]; unfold dR; rw [slH_nat, List.map_take]
      have s2 : slL (dR r) (.int (x51 % r.length + 1)) = some (dR (r.drop (j + 1))) := by
        rw [hj]; unfold dR; rw [show ((j : Int) + 1) = ((j + 1 : Nat) : Int) by omega, slL_nat, List.map_drop]
      have a1 := add_dR (a := r.take j) (b := [p]) (by rw [List.length_take]; simp; unfold zL; omega)
      have a2 := add_dR (a := r.take j ++ [p]) (b := r.drop (j + 1)) (by simp; unfold zL; omega)
      refine ⟨r.take j ++ [p] ++ r.drop (j + 1), ?_, ?_, ?_⟩
      · intro x hx
        rcases List.mem_append.mp hx with hx | hx
        · rcases List.mem_append.mp hx with hx | hx
          · exact ok x (List.mem_of_mem_take hx)
          · simp at hx; rw [hx]; exact pairsL_ok hp
        · exact ok x (List.mem_of_mem_drop hx)
      · simp; omega
      · rw [run_at h5 rfl (by decide)]
        simp at e50 e51 e52
        simp only [List.append_assoc] at a1 a2 ⊢
        simp [f__law_list, b__law_list, fin, ed, ep, er, e50, e51, e52, m50, m51, m52, c0, c1, lenP_dR, lenP_dL, s1, s2, epk, tup1_dR, a1, a2]
    · have hpk : ∀ i : Nat, i < m - 1 → ∃ q ∈ pairsL m, ∃ y : Int, ixP (.list (ds.map .int)) (.int (40 + (i : Nat))) = some (.int y) ∧ ixP (dL (pairsL m)) (.int (y % (pairsL m).length)) = some (pr q) := fun i hi => by
        obtain ⟨y, _, ey⟩ := hd.at_ (40 + i) (by omega)
        obtain ⟨q, hq, eq⟩ := pick (pairsL_pos hm) y
        exact ⟨q, hq, y, by rw [show (40 + (i : Int)) = ((40 + i : Nat) : Int) by omega]; exact ey, eq⟩
      have ch : ∃ f : Nat → Int × Int, ∀ i, i < m - 1 → f i ∈ pairsL m ∧ ∃ y : Int, ixP (.list (ds.map .int)) (.int (40 + (i : Nat))) = some (.int y) ∧ ixP (dL (pairsL m)) (.int (y % (pairsL m).length)) = some (pr (f i)) :=
        ⟨fun i => if hi : i < m - 1 then (hpk i hi).choose else (0, 0), fun i hi => by
          have := (hpk i hi).choose_spec
          simp only [hi, dif_pos]
          exact this⟩
      obtain ⟨f, hf⟩ := ch
      have hi : inR ((m : Int) - 1) = true := by unfold inR; simp; omega
      have hc : dComp (iRng (dCons (dPrim .sub (dCons (dVar 2) (dCons (dC (.int 1)) dNil))) dNil)) (.nm 6) none (dPrim .ix (dCons (dVar 4) (dCons (dPrim .mod (dCons (dPrim .ix (dCons (dVar 3) (dCons (dPrim .add (dCons (dC (.int 40)) (dCons (dVar 6) dNil))) dNil))) (dCons (dPrim .len (dCons (dVar 4) dNil)) dNil))) dNil))) [6] (run T (n + 3))
          [some (dScript ns), some (.int k), some (.int (m : Nat)), some (.list (ds.map .int)), some (dL (pairsL m)), some (dR r), none] w = some (.val (.list (((List.range (m - 1)).map f).map pr)), w) := by
        rw [dComp_map (fun i : Nat => pr (f i)) (fun i : Nat => .int (i : Nat)) (List.range (m - 1)) (by
            rw [e_iRng1 _ _ _ _ ((m : Int) - 1) (by simp) hi]
            unfold rangeD
            rw [show ((m : Int) - 1 - 0).toNat = m - 1 by omega]
            simp) (fun i hi => ⟨_, rfl, by
              rw [List.mem_range] at hi
              obtain ⟨_, y, e1, e2⟩ := hf i hi
              have e3 : modP (.int y) (.int (pairsL m).length) = some (.int (y % (pairsL m).length)) := mod_pos (by have := pairsL_pos hm; omega)
              simp [wipeR, e1, e2, e3, lenP_dL], rfl⟩) (by rw [List.length_range]; unfold zL; omega)]
        rw [List.map_map]; rfl
      refine ⟨(List.range (m - 1)).map f, ?_, ?_, ?_⟩
      · intro x hx
        obtain ⟨i, hi, rfl⟩ := List.mem_map.mp hx
        exact pairsL_ok (hf i (List.mem_range.mp hi)).1
      · simp; omega
      · rw [run_at h5 rfl (by decide)]
        simp at e50
        have c1' : ¬ x50 % 3 = 1 := c1
        simp [f__law_list, b__law_list, fin, ed, ep, er, e50, m50, c0, c1, hc]
        simp [dR]
end
end Rx

set_option linter.all false
set_option maxRecDepth 100000
set_option autoImplicit false
namespace Rx
open PySem
/-! ### turning -/
def rt (s k : Int) (p : Int × Int) : Int × Int := if (p.1 + k) % s ≤ (p.2 + k) % s then ((p.1 + k) % s, (p.2 + k) % s) else ((p.2 + k) % s, (p.1 + k) % s)
theorem srt_rt (s k : Int) (p : Int × Int) : sortedP (.list [.int ((p.1 + k) % s), .int ((p.2 + k) % s)]) = some (.list [.int (rt s k p).1, .int (rt s k p).2]) := by
  rw [sorted2]
  unfold rt
  by_cases h : (p.1 + k) % s ≤ (p.2 + k) % s <;> simp [h]
theorem rot_inj {s k x y : Int} (hx : 0 ≤ x ∧ x < s) (hy : 0 ≤ y ∧ y < s) (e : (x + k) % s = (y + k) % s) : x = y := by
  have h1 : (x - y) % s = 0 := by
    have h2 := Int.emod_emod_of_dvd (x + k - (y + k)) (Int.dvd_refl s)
    have h3 : (x + k - (y + k)) % s = 0 := by rw [Int.sub_emod, e, Int.sub_self, Int.zero_emod]
    rw [show x + k - (y + k) = x - y by omega] at h3
    exact h3
  obtain ⟨c, hc⟩ := Int.dvd_of_emod_eq_zero h1
  have : c = 0 := by
    by_cases hp : c ≤ 0
    · by_cases hn : 0 ≤ c
      · omega
      · have : s * c ≤ s * (-1) := Int.mul_le_mul_of_nonneg_left (by omega) (by omega)
        omega
    · have : s * 1 ≤ s * c := Int.mul_le_mul_of_nonneg_left (by omega) (by omega)
      omega
  rw [this] at hc
  omega
theorem rot_in {s : Int} (h : 0 < s) (x : Int) : 0 ≤ x % s ∧ x % s < s := ⟨Int.emod_nonneg _ (by omega), Int.emod_lt_of_pos _ h⟩
theorem rt_ok {s k : Int} {p : Int × Int} (hp : Ok s p) : Ok s (rt s k p) := by
  have hs : 0 < s := by unfold Ok at hp; omega
  have h1 := rot_in hs (p.1 + k)
  have h2 := rot_in hs (p.2 + k)
  have h3 : (p.1 + k) % s ≠ (p.2 + k) % s := fun e => hp.ne (rot_inj (k := k) (by unfold Ok at hp; omega) (by unfold Ok at hp; omega) e)
  unfold rt Ok
  split <;> simp only <;> omega
theorem mv_rt {s k : Int} {p : Int × Int} (hp : Ok s p) {x : Int} (hx : 0 ≤ x ∧ x < s) : mv (rt s k p) ((x + k) % s) = (mv p x + k) % s := by
  have hi1 : ((x + k) % s = (p.1 + k) % s) ↔ x = p.1 := ⟨rot_inj hx (by unfold Ok at hp; omega), fun e => by rw [e]⟩
  have hi2 : ((x + k) % s = (p.2 + k) % s) ↔ x = p.2 := ⟨rot_inj hx (by unfold Ok at hp; omega), fun e => by rw [e]⟩
  have hne := hp.ne
  unfold rt
  by_cases h : (p.1 + k) % s ≤ (p.2 + k) % s
  · rw [if_pos h]
    show (if (x + k) % s = (p.1 + k) % s then (p.2 + k) % s else if (x + k) % s = (p.2 + k) % s then (p.1 + k) % s else (x + k) % s) = ((if x = p.1 then p.2 else if x = p.2 then p.1 else x) + k) % s
    simp only [hi1, hi2]
    split
    · rfl
    · split <;> rfl
  · rw [if_neg h]
    show (if (x + k) % s = (p.2 + k) % s then (p.1 + k) % s else if (x + k) % s = (p.1 + k) % s then (p.2 + k) % s else (x + k) % s) = ((if x = p.1 then p.2 else if x = p.2 then p.1 else x) + k) % s
    simp only [hi1, hi2]
    by_cases h1 : x = p.1
    · rw [if_neg (fun e => hne (h1.symm.trans e)), if_pos h1, if_pos h1]
    · rw [if_neg h1, if_neg h1]
      split <;> rfl
theorem sem_in {s : Int} : ∀ {r : List (Int × Int)}, OkR s r → ∀ {x : Int}, 0 ≤ x ∧ x < s → 0 ≤ sem r x ∧ sem r x < s
  | [], _, x, hx => hx
  | p :: r, h, x, hx => by
    rw [sem_cons]
    exact sem_in (fun q hq => h q (.tail _ hq)) (mv_in (h p (.head _)) hx)
theorem sem_rt {s k : Int} : ∀ {r : List (Int × Int)}, OkR s r → ∀ {x : Int}, 0 ≤ x ∧ x < s → sem (r.map (rt s k)) ((x + k) % s) = (sem r x + k) % s
  | [], _, x, _ => rfl
  | p :: r, h, x, hx => by
    rw [List.map_cons, sem_cons, sem_cons, mv_rt (h p (.head _)) hx]
    exact sem_rt (fun q hq => h q (.tail _ hq)) (mv_in (h p (.head _)) hx)
/-- moves every place on by one -/
def Rnd (s : Int) (r : List (Int × Int)) : Prop := ∀ x, 0 ≤ x ∧ x < s → sem r x = (x + 1) % s
theorem rnd_rt {s k : Int} {r : List (Int × Int)} (hs : 0 < s) (ok : OkR s r) (h : Rnd s r) : Rnd s (r.map (rt s k)) := by
  intro y hy
  have hx := rot_in hs (y - k)
  have e : ((y - k) % s + k) % s = y := by
    rw [Int.emod_add_emod, show y - k + k = y by omega]
    exact Int.emod_eq_of_lt hy.1 hy.2
  have q := sem_rt (k := k) ok hx
  rw [e, h _ hx] at q
  rw [q, Int.emod_add_emod]
  rw [show (y - k) % s + 1 + k = (y - k) % s + (1 + k) by omega, Int.emod_add_emod]
  congr 1
  omega
theorem rnd_roll {s : Int} {p : Int × Int} {t : List (Int × Int)} (ok : OkR s (p :: t)) (h : Rnd s (p :: t)) : Rnd s (t ++ [rt s 1 p]) := by
  intro y hy
  have hp : Ok s p := ok p (.head _)
  have hx := mv_in hp hy
  rw [sem_app]
  have e1 := h _ hx
  rw [sem_cons, mv_mv hp.ne] at e1
  rw [e1]
  show mv (rt s 1 p) ((mv p y + 1) % s) = _
  rw [mv_rt hp hx, mv_mv hp.ne]
theorem cyc_at {s : Int} (hs : 2 ≤ s ∧ s ≤ 6) : cyc s = (List.range s.toNat).map fun i => (((i : Nat) : Int) + 1) % s := by
  have : s = 2 ∨ s = 3 ∨ s = 4 ∨ s = 5 ∨ s = 6 := by omega
  rcases this with rfl | rfl | rfl | rfl | rfl <;> decide
theorem rnd_iff {s : Int} (hs : 2 ≤ s ∧ s ≤ 6) (r : List (Int × Int)) : resL s r = cyc s ↔ Rnd s r := by
  rw [cyc_at hs]
  unfold resL
  constructor
  · intro e x hx
    have := congrArg (fun l => l[x.toNat]?) e
    simp only [List.getElem?_map] at this
    rw [List.getElem?_range (by omega)] at this
    simp only [Option.map_some, Option.some.injEq] at this
    rw [show ((x.toNat : Nat) : Int) = x by omega] at this
    exact this
  · intro h
    apply List.map_congr_left
    intro i hi
    rw [List.mem_range] at hi
    exact h _ (by omega)
section
variable {T : Tb} {n : Nat} {w : Om}
theorem lisr_ok (h : T i__law_to = some f__law_to) (h2 : T i__law_result = some f__law_result) (h3 : T i__law_is_round = some f__law_is_round) (s : Int) (hs : 2 ≤ s ∧ s ≤ 6) (r : List (Int × Int)) :
    run T (n + 3) i__law_is_round [.int s, dR r] w = some (.val (.bool (decide (resL s r = cyc s))), w) := by
  rw [run_at h3 rfl (by decide)]
  have hi : inR s = true := by unfold inR; simp; omega
  have hc : dComp (iRng (dCons (dVar 0) dNil)) (.nm 2) none (dPrim .mod (dCons (dPrim .add (dCons (dVar 2) (dCons (dC (.int 1)) dNil))) (dCons (dVar 0) dNil))) [2] (run T (n + 2)) [some (.int s), some (dR r), none] w = some (.val (.list ((cyc s).map .int)), w) := by
    rw [dComp_map (fun i : Nat => .int ((((i : Nat) : Int) + 1) % s)) (fun i : Nat => .int (i : Nat)) (List.range s.toNat) (by
      rw [e_iRng1 _ _ _ _ s (by simp) hi]
      unfold rangeD
      rw [Int.sub_zero]
      simp) (fun i _ => ⟨_, rfl, by simp [wipeR, mod_pos (show 0 < s by omega)], rfl⟩) (by rw [List.length_range]; unfold zL; omega)]
    rw [cyc_at hs, List.map_map]; rfl
  simp [f__law_is_round, b__law_is_round, fin, lresult_ok h h2 s (by omega) r, hc, eqP_ints]
/-- [(x + k) % s for x in p] -/
theorem rt_list {c : Cf} {r : Env} {p : Int × Int} {s k : Int} {src : Exs} {j b : Nat} {ek : Ex} (hs : 0 < s) (hsrc : src c r w = some (.vals [.int p.1, .int p.2], w)) (hj : j < r.length) (hb : r[b]? = some (some (.int s))) (hbj : b ≠ j) (hk : ∀ x : Int, ek c ((r.set j none).set j (some (.int x))) w = some (.val (.int k), w)) :
    dComp src (.nm j) none (dPrim .mod (dCons (dPrim .add (dCons (dVar j) (dCons ek dNil))) (dCons (dVar b) dNil))) [j] c r w = some (.val (.list [.int ((p.1 + k) % s), .int ((p.2 + k) % s)]), w) := by
  rw [dComp_map (fun x => .int ((x + k) % s)) .int [p.1, p.2] hsrc (fun x hx => ⟨_, rfl, ?_, rfl⟩) (show 2 ≤ zL by decide)]
  · rfl
  · have hk2 : j < ((r.set j none)).length := by rw [List.length_set]; exact hj
    have e1 : ((r.set j none).set j (some (.int x)))[b]? = some (some (.int s)) := by
      rw [List.getElem?_set_ne (fun z => hbj z.symm), List.getElem?_set_ne (fun z => hbj z.symm)]; exact hb
    have e2 : ((r.set j none).set j (some (.int x)))[j]? = some (some (.int x)) := List.getElem?_set_self hk2
    simp only [wipeR, e_dPrim, e_dCons, e_dVar, e_dNil, e1, e2, hk, p_add, addP_int, Option.map_some, p_mod, mod_pos hs]
theorem cround_ok (h : T i_in_range = some f_in_range) (h1 : T i_check_size = some f_check_size) (h2 : T i_is_exchange = some f_is_exchange) (h3 : T i_are_exchanges = some f_are_exchanges) (h4 : T i_check_list = some f_check_list) (h5 : T i_moved = some f_moved) (h6 : T i_result_of = some f_result_of) (h7 : T i_is_round_list = some f_is_round_list) (h8 : T i_check_round = some f_check_round)
    (s : Int) (hs : 2 ≤ s ∧ s ≤ 6) (r : List (Int × Int)) (ok : OkR s r) (hl : (r.length : Int) = s - 1) :
    run T (n + 5) i_check_round [.int s, dR r] w = some (if resL s r = cyc s then .val .none else .exc ⟨7, .none⟩, w) := by
  rw [run_at h8 rfl (by decide)]
  by_cases hc : resL s r = cyc s <;> simp [f_check_round, b_check_round, fin, clist_ok h h1 h2 h3 h4 s hs r ok hl, rndl_ok h5 h6 h7 s (by omega) r, hc]
end
end Rx

set_option linter.all false
set_option maxRecDepth 100000
set_option autoImplicit false
namespace Rx
open PySem
/-! ### answers -/
def dA (a : Int × Int × Int) : D := .tuple [.int a.1, .int a.2.1, .int a.2.2]
def OkA (s : Int) (a : Int × Int × Int) : Prop := (0 ≤ a.1 ∧ a.1 ≤ s - 1) ∧ (0 ≤ a.2.1 ∧ a.2.1 ≤ s - 1) ∧ (0 ≤ a.2.2 ∧ a.2.2 ≤ s - 1)
theorem forGo_app {c : Cf} {tg : Tg} {body : Sx} : ∀ (xs ys : List D) (r r' : Env) (w w' : Om), forGo c tg body xs r w = some (.next r', w') → forGo c tg body (xs ++ ys) r w = forGo c tg body ys r' w'
  | [], ys, r, r', w, w', h => by rw [forGo] at h; cases h; rfl
  | x :: xs, ys, r, r', w, w', h => by
    rw [List.cons_append, forGo]
    rw [forGo] at h
    cases hb : bindT tg x r with
    | none => rw [hb] at h; cases h
    | some r1 =>
      rw [hb] at h
      simp only at h ⊢
      cases hq : body c r1 w with
      | none => rw [hq] at h; cases h
      | some pr =>
        obtain ⟨o, w1⟩ := pr
        rw [hq] at h
        cases o with
        | next r2 => simp only at h ⊢; exact forGo_app xs ys r2 r' w1 w' h
        | ret d => cases h
        | exc x r2 => cases h
section
variable {T : Tb} {n : Nat} {w : Om}
theorem pa_ok (h : T i_moved = some f_moved) (h2 : T i_place_after = some f_place_after) (r : List (Int × Int)) (k : Nat) (x : Int) : run T (n + 2) i_place_after [dR r, .int (k : Nat), .int x] w = some (.val (.int (sem (r.take k) x)), w) := by
  rw [run_at h2 rfl (by decide)]
  have go : ∀ (q : List (Int × Int)) (y : Int) (o : Option D), ∃ o', forGo (run T (n + 1)) (.nm 4) (sAsg 3 (dCall 7 (dCons (dVar 4) (dCons (dVar 3) dNil)))) (q.map pr) [some (dR r), some (.int (k : Nat)), some (.int x), some (.int y), o] w = some (.next [some (dR r), some (.int (k : Nat)), some (.int x), some (.int (sem q y)), o'], w) := by
    intro q
    induction q with
    | nil => intro y o; exact ⟨o, rfl⟩
    | cons p q ih =>
      intro y o
      obtain ⟨o', e⟩ := ih (mv p y) (some (pr p))
      refine ⟨o', ?_⟩
      rw [List.map_cons, forGo]
      simp [bindT, moved_ok h]
      exact e
  obtain ⟨o', e⟩ := go (r.take k) x none
  have s1 : slH (dR r) (.int (k : Nat)) = some (dR (r.take k)) := by unfold dR; rw [slH_nat, List.map_take]
  have it : items (dR (r.take k)) = some ((r.take k).map pr) := rfl
  simp [f_place_after, b_place_after, fin, s1]
  rw [it]
  simp only [Option.map_some]
  rw [e]
  simp
def caB : Sx := sSeq (sIf (dOr (dNot (dPrim .isTuple (dCons (dVar 2) dNil))) (dPrim .ne (dCons (dPrim .len (dCons (dVar 2) dNil)) (dCons (dC (.int 3)) dNil))))
    (sRaise 6)
    sPass)
    (sIf (dComp (iSeq (dVar 2)) (.nm 3) (some (dNot (dCall 1 (dCons (dVar 3) (dCons (dC (.int 0)) (dCons (dPrim .sub (dCons (dVar 0) (dCons (dC (.int 1)) dNil))) dNil)))))) (dVar 3) [3])
    (sRaise 6)
    sPass)
/-- is a part of an answer in range -/
def inA (s : Int) : D → Bool
  | .int i => decide (0 ≤ i ∧ i ≤ s - 1)
  | _ => false
theorem inA_run (h : T i_in_range = some f_in_range) (s : Int) (d : D) (hd : (∃ i, d = .int i) ∨ d = .none ∨ ∃ b, d = .bool b) : run T (n + 1) i_in_range [d, .int 0, .int (s - 1)] w = some (.val (.bool (inA s d)), w) := by
  rcases hd with ⟨i, rfl⟩ | rfl | ⟨b, rfl⟩
  · exact inr_int h i 0 (s - 1)
  · exact inr_none h 0 (s - 1)
  · exact inr_bool h b 0 (s - 1)
theorem caB_three (h : T i_in_range = some f_in_range) (s : Int) (ds : D) (d1 d2 d3 : D) (hd : ∀ d ∈ [d1, d2, d3], (∃ i, d = .int i) ∨ d = .none ∨ ∃ b, d = .bool b) (hp : ∀ d ∈ [d1, d2, d3], plain d = true) :
    caB (run T (n + 1)) [some (.int s), some ds, some (.tuple [d1, d2, d3]), none] w = some (if (inA s d1 && inA s d2 && inA s d3) = true then .next [some (.int s), some ds, some (.tuple [d1, d2, d3]), none] else .exc ⟨6, .none⟩ [some (.int s), some ds, some (.tuple [d1, d2, d3]), none], w) := by
  have hc : dComp (iSeq (dVar 2)) (.nm 3) (some (dNot (dCall 1 (dCons (dVar 3) (dCons (dC (.int 0)) (dCons (dPrim .sub (dCons (dVar 0) (dCons (dC (.int 1)) dNil))) dNil)))))) (dVar 3) [3] (run T (n + 1)) [some (.int s), some ds, some (.tuple [d1, d2, d3]), none] w = some (.val (.list (([d1, d2, d3].filter fun d => !inA s d).map id)), w) := by
    refine dComp_filter (fun d => !inA s d) id id [d1, d2, d3] (by simp) (fun d hm => ⟨_, rfl, ?_, fun _ => ⟨by simp [wipeR], hp d hm⟩⟩) (show 3 ≤ zL by decide)
    have := inA_run (T := T) (n := n) (w := w) h s d (hd d hm)
    simp [wipeR, this]
  have e1 : tstP isTup (.tuple [d1, d2, d3]) = some (.bool true) := rfl
  have e2 : lenP (.tuple [d1, d2, d3]) = some (.int 3) := rfl
  simp [caB, e1, e2, hc]
  cases h1 : inA s d1 <;> cases h2 : inA s d2 <;> cases h3 : inA s d3 <;> simp [List.filter, h1, h2, h3]
theorem ca_loop (h : T i_in_range = some f_in_range) (s : Int) (ds : D) : ∀ (l : List (Int × Int × Int)), (∀ a ∈ l, OkA s a) → ∀ o : Option D, ∃ o', forGo (run T (n + 1)) (.nm 2) caB (l.map dA) [some (.int s), some ds, o, none] w = some (.next [some (.int s), some ds, o', none], w)
  | [], _, o => ⟨o, rfl⟩
  | a :: l, hl, o => by
    obtain ⟨o', e⟩ := ca_loop h s ds l (fun b hb => hl b (.tail _ hb)) (some (dA a))
    refine ⟨o', ?_⟩
    have q := caB_three (T := T) (n := n) (w := w) h s ds (.int a.1) (.int a.2.1) (.int a.2.2) (fun d hd => by simp at hd; rcases hd with rfl | rfl | rfl <;> exact .inl ⟨_, rfl⟩) (fun d hd => by simp at hd; rcases hd with rfl | rfl | rfl <;> rfl)
    have ha := hl a (.head _)
    have t : (inA s (.int a.1) && inA s (.int a.2.1) && inA s (.int a.2.2)) = true := by
      simp [inA]; exact ⟨⟨ha.1, ha.2.1⟩, ha.2.2⟩
    rw [if_pos t] at q
    rw [List.map_cons, forGo]
    show (match caB (run T (n + 1)) [some (.int s), some ds, some (.tuple [.int a.1, .int a.2.1, .int a.2.2]), none] w with
      | none => none
      | some (.next r2, w2) => forGo (run T (n + 1)) (.nm 2) caB (l.map dA) r2 w2
      | some (.ret d, w2) => some (.ret d, w2)
      | some (.exc x r2, w2) => some (.exc x r2, w2)) = _
    rw [q]
    exact e
theorem ca_ok (h : T i_in_range = some f_in_range) (h2 : T i_check_answers = some f_check_answers) (s : Int) (hs : 2 ≤ s ∧ s ≤ 5) (l : List (Int × Int × Int)) (hl : ∀ a ∈ l, OkA s a) : run T (n + 2) i_check_answers [.int s, .tuple (l.map dA)] w = some (.val .none, w) := by
  obtain ⟨o', e⟩ := ca_loop (T := T) (n := n) (w := w) h s (.tuple (l.map dA)) l hl none
  have e1 : tstP isTup (.tuple (l.map dA)) = some (.bool true) := rfl
  rw [run_at h2 rfl (by decide)]
  unfold caB at e
  simp [f_check_answers, b_check_answers, fin, inr_int h, hs, e1, e]
theorem ca_bad (h : T i_in_range = some f_in_range) (h2 : T i_check_answers = some f_check_answers) (s : Int) (hs : 2 ≤ s ∧ s ≤ 5) (l : List (Int × Int × Int)) (hl : ∀ a ∈ l, OkA s a) (d : D)
    (hd : ∀ (ds : D) (o : Option D), ∃ r, caB (run T (n + 1)) [some (.int s), some ds, some d, none] w = some (.exc ⟨6, .none⟩ r, w)) : run T (n + 2) i_check_answers [.int s, .tuple (l.map dA ++ [d])] w = some (.exc ⟨6, .none⟩, w) := by
  obtain ⟨o', e⟩ := ca_loop (T := T) (n := n) (w := w) h s (.tuple (l.map dA ++ [d])) l hl none
  obtain ⟨r, er⟩ := hd (.tuple (l.map dA ++ [d])) none
  have e1 : tstP isTup (.tuple (l.map dA ++ [d])) = some (.bool true) := rfl
  have e2 : forGo (run T (n + 1)) (.nm 2) caB (l.map dA ++ [d]) [some (.int s), some (.tuple (l.map dA ++ [d])), none, none] w = some (.exc ⟨6, .none⟩ r, w) := by
    rw [forGo_app _ _ _ _ _ _ e, forGo]
    simp only [bindT, List.set_cons_succ, List.set_cons_zero]
    rw [er]
  rw [run_at h2 rfl (by decide)]
  unfold caB at e2
  simp [f_check_answers, b_check_answers, fin, inr_int h, hs, e1, e2]
end
end Rx

set_option Elab.async false
set_option linter.all false
set_option maxRecDepth 100000
set_option autoImplicit false
namespace Rx
open PySem
/-! ### all orders -/
def insAll (x : Int) : List Int → List (List Int)
  | [] => [[x]]
  | y :: ys => (x :: y :: ys) :: (insAll x ys).map (y :: ·)
def permsOf : List Int → List (List Int)
  | [] => [[]]
  | x :: xs => (permsOf xs).flatMap (insAll x)
def rngI (n : Nat) : List Int := (List.range n).map fun i => ((i : Nat) : Int)
theorem insAll_mem (x : Int) : ∀ a b : List Int, a ++ x :: b ∈ insAll x (a ++ b)
  | [], [] => by simp [insAll]
  | [], y :: b => by simp [insAll]
  | z :: a, b => by
    rw [List.cons_append, List.cons_append]
    unfold insAll
    exact .tail _ (List.mem_map.mpr ⟨_, insAll_mem x a b, rfl⟩)
theorem permsOf_mem : ∀ {xs l : List Int}, l.Perm xs → l ∈ permsOf xs
  | [], l, h => by rw [h.eq_nil]; simp [permsOf]
  | x :: xs, l, h => by
    have hx : x ∈ l := h.mem_iff.mpr (.head _)
    obtain ⟨a, b, rfl⟩ := List.append_of_mem hx
    have h2 : (a ++ b).Perm xs := (List.perm_middle.symm.trans h).cons_inv
    unfold permsOf
    exact List.mem_flatMap.mpr ⟨_, permsOf_mem h2, insAll_mem x a b⟩
theorem sem_inj {s : Int} : ∀ {r : List (Int × Int)}, OkR s r → ∀ {x y : Int}, sem r x = sem r y → x = y
  | [], _, _, _, e => e
  | p :: r, h, x, y, e => by
    rw [sem_cons, sem_cons] at e
    exact mv_inj (h p (.head _)).ne (sem_inj (fun q hq => h q (.tail _ hq)) e)
theorem nodup_sub_perm : ∀ {l m : List Int}, l.Nodup → (∀ x ∈ l, x ∈ m) → m.length ≤ l.length → l.Perm m
  | [], m, _, _, h => by
    have : m = [] := List.eq_nil_of_length_eq_zero (by simpa using h)
    rw [this]
  | x :: l, m, hn, hs, h => by
    obtain ⟨h1, h2⟩ := List.nodup_cons.mp hn
    obtain ⟨a, b, rfl⟩ := List.append_of_mem (hs x (.head _))
    have := nodup_sub_perm (l := l) (m := a ++ b) h2 (fun y hy => by
      have hne : y ≠ x := fun e => h1 (e ▸ hy)
      have := hs y (.tail _ hy)
      simp only [List.mem_append, List.mem_cons] at this ⊢
      rcases this with z | z | z
      · exact .inl z
      · exact absurd z hne
      · exact .inr z) (by simp at h ⊢; omega)
    exact (this.cons x).trans List.perm_middle.symm
theorem rngI_nodup (n : Nat) : (rngI n).Nodup := by
  unfold rngI
  refine List.Pairwise.map _ (fun a b h e => h ?_) List.nodup_range
  omega
theorem mem_rngI {n : Nat} {x : Int} : x ∈ rngI n ↔ 0 ≤ x ∧ x < n := by
  unfold rngI
  simp only [List.mem_map, List.mem_range]
  constructor
  · rintro ⟨i, hi, rfl⟩; omega
  · intro h; exact ⟨x.toNat, by omega, by omega⟩
theorem resL_perm {s : Nat} {r : List (Int × Int)} (ok : OkR s r) : resL s r ∈ permsOf (rngI s) := by
  apply permsOf_mem
  have e : resL s r = (rngI s).map (sem r) := by unfold resL rngI; rw [List.map_map]; rfl
  rw [e]
  refine nodup_sub_perm ?_ (fun x hx => ?_) (by rw [List.length_map]; exact Nat.le_refl _)
  · exact List.Pairwise.map _ (fun a b h e => h (sem_inj ok e)) (rngI_nodup s)
  · obtain ⟨y, hy, rfl⟩ := List.mem_map.mp hx
    rw [mem_rngI] at hy ⊢
    exact sem_in ok hy
/-! ### groups, of where each place is moved -/
def orb (ms : List Int) : Nat → Int → List Int
  | 0, _ => []
  | n + 1, x => x :: orb ms n (ms.getD x.toNat 0)
def grp (s : Nat) (ms : List Int) : List (List Int) := (rngI s).filterMap fun x => if (orb ms s x).all (fun y => decide (x ≤ y)) then some ((rngI s).filter fun y => (orb ms s x).any (· == y)) else none
def dG (g : List (List Int)) : D := .list (g.map fun x => .tuple (x.map .int))
def AtG (s : Nat) : Prop := ∀ ms ∈ permsOf (rngI s), ∀ (c : Cf) (row : Option D) (w : Om), t_groups_of c [some (.int s), row, some (dX ms), none, none, none] w = some (.ret (dG (grp s ms)), w)
def AtL (s : Nat) : Prop := ∀ ms ∈ permsOf (rngI s), ∀ (c : Cf) (row : Option D) (w : Om), t__law_groups c [some (.int s), row, some (.tuple (ms.map .int)), none, none, none, none, none, none] w = some (.ret (dG (grp s ms)), w)
theorem map_all {α β : Type} {f g : α → β} {l : List α} (h : l.map f = l.map g) : ∀ x ∈ l, f x = g x := List.map_inj_left.mp h
def fG (s : Nat) (c : Cf) (row : Option D) (w : Om) (ms : List Int) : Option (Out × Om) := t_groups_of c [some (.int s), row, some (dX ms), none, none, none] w
def fL (s : Nat) (c : Cf) (row : Option D) (w : Om) (ms : List Int) : Option (Out × Om) := t__law_groups c [some (.int s), row, some (.tuple (ms.map .int)), none, none, none, none, none, none] w
def oG (s : Nat) (w : Om) (ms : List Int) : Option (Out × Om) := some (.ret (dG (grp s ms)), w)
theorem kg2 (c : Cf) (row : Option D) (w : Om) : (permsOf (rngI 2)).map (fG 2 c row w) = (permsOf (rngI 2)).map (oG 2 w) := by kernel_rfl
theorem kl2 (c : Cf) (row : Option D) (w : Om) : (permsOf (rngI 2)).map (fL 2 c row w) = (permsOf (rngI 2)).map (oG 2 w) := by kernel_rfl
theorem kg3 (c : Cf) (row : Option D) (w : Om) : (permsOf (rngI 3)).map (fG 3 c row w) = (permsOf (rngI 3)).map (oG 3 w) := by kernel_rfl
theorem kl3 (c : Cf) (row : Option D) (w : Om) : (permsOf (rngI 3)).map (fL 3 c row w) = (permsOf (rngI 3)).map (oG 3 w) := by kernel_rfl
theorem kg4 (c : Cf) (row : Option D) (w : Om) : (permsOf (rngI 4)).map (fG 4 c row w) = (permsOf (rngI 4)).map (oG 4 w) := by kernel_rfl
theorem kl4 (c : Cf) (row : Option D) (w : Om) : (permsOf (rngI 4)).map (fL 4 c row w) = (permsOf (rngI 4)).map (oG 4 w) := by kernel_rfl
theorem kg5 (c : Cf) (row : Option D) (w : Om) : (permsOf (rngI 5)).map (fG 5 c row w) = (permsOf (rngI 5)).map (oG 5 w) := by kernel_rfl
theorem kl5 (c : Cf) (row : Option D) (w : Om) : (permsOf (rngI 5)).map (fL 5 c row w) = (permsOf (rngI 5)).map (oG 5 w) := by kernel_rfl
def ch6 (i : Nat) : List (List Int) := ((permsOf (rngI 6)).drop (30 * i)).take 30
theorem in_chunk {α : Type} {l : List α} {x : α} {k m : Nat} (hk : 0 < k) (hl : l.length ≤ k * m) (h : x ∈ l) : ∃ i, i < m ∧ x ∈ (l.drop (k * i)).take k := by
  obtain ⟨j, hj, e⟩ := List.getElem_of_mem h
  have hd : k * (j / k) + j % k = j := Nat.div_add_mod j k
  have hm : j % k < k := Nat.mod_lt _ hk
  refine ⟨j / k, Nat.div_lt_of_lt_mul (by omega), ?_⟩
  refine List.mem_of_getElem? (i := j % k) ?_
  rw [List.getElem?_take_of_lt hm, List.getElem?_drop, hd, List.getElem?_eq_getElem hj, e]
theorem p6_len : (permsOf (rngI 6)).length ≤ 30 * 24 := by decide +kernel
end Rx

set_option Elab.async false
set_option linter.all false
set_option maxRecDepth 100000
set_option autoImplicit false
namespace Rx
open PySem
section
variable {T : Tb} {n : Nat} {w : Om}
theorem cpart_ok (h : T i_in_range = some f_in_range) (h1 : T i_check_size = some f_check_size) (h2 : T i_is_exchange = some f_is_exchange) (h3 : T i_are_exchanges = some f_are_exchanges) (h4 : T i_check_part = some f_check_part) (s : Int) (hs : 2 ≤ s ∧ s ≤ 6) (r : List (Int × Int)) (ok : OkR s r) (hl : (r.length : Int) ≤ s - 1) :
    run T (n + 4) i_check_part [.int s, dR r] w = some (.val .none, w) := by
  rw [run_at h4 rfl (by decide)]
  have hz : r.length ≤ zL := by unfold zL; omega
  simp [f_check_part, b_check_part, fin, csize_ok h h1 s hs, arex_ok h h2 h3 s (s - 1) r ok hl hz]
theorem res_ok (h : T i_in_range = some f_in_range) (h1 : T i_check_size = some f_check_size) (h2 : T i_is_exchange = some f_is_exchange) (h3 : T i_are_exchanges = some f_are_exchanges) (h4 : T i_check_part = some f_check_part) (h5 : T i_moved = some f_moved) (h6 : T i_result_of = some f_result_of) (h7 : T i_result = some f_result)
    (s : Int) (hs : 2 ≤ s ∧ s ≤ 6) (r : List (Int × Int)) (ok : OkR s r) (hl : (r.length : Int) ≤ s - 1) :
    run T (n + 5) i_result [.int s, dR r] w = some (.val (dX (resL s r)), w) := by
  rw [run_at h7 rfl (by decide)]
  simp [f_result, b_result, fin, cpart_ok h h1 h2 h3 h4 s hs r ok hl, result_ok h5 h6 s (by omega) r]
theorem grpo_ok {s : Nat} (at_ : AtG s) (hs : 2 ≤ s ∧ s ≤ 6) (h5 : T i_moved = some f_moved) (h6 : T i_result_of = some f_result_of) (h7 : T i_groups_of = some f_groups_of) (r : List (Int × Int)) (ok : OkR s r) :
    run T (n + 3) i_groups_of [.int s, dR r] w = some (.val (dG (grp s (resL s r))), w) := by
  rw [run_at h7 rfl (by decide)]
  have e := at_ _ (resL_perm ok) (run T (n + 2)) (some (dR r)) w
  simp [f_groups_of, b_groups_of, result_ok h5 h6 (s : Int) (by omega) r]
  rw [e]
  rfl
theorem lgrp_ok {s : Nat} (at_ : AtL s) (hs : 2 ≤ s ∧ s ≤ 6) (h5 : T i__law_to = some f__law_to) (h6 : T i__law_result = some f__law_result) (h7 : T i__law_groups = some f__law_groups) (r : List (Int × Int)) (ok : OkR s r) :
    run T (n + 3) i__law_groups [.int s, dR r] w = some (.val (dG (grp s (resL s r))), w) := by
  rw [run_at h7 rfl (by decide)]
  have e := at_ _ (resL_perm ok) (run T (n + 2)) (some (dR r)) w
  simp [f__law_groups, b__law_groups, lresult_ok h5 h6 (s : Int) (by omega) r]
  rw [e]
  rfl
theorem shal_dG (n : Nat) (g : List (List Int)) : shal (n + 2) (dG g) = true := by
  unfold dG shal
  rw [List.all_map]
  refine List.all_eq_true.mpr fun x _ => ?_
  exact shal_ints n x
theorem OkR.take {s : Int} {r : List (Int × Int)} (h : OkR s r) (k : Nat) : OkR s (r.take k) := fun p hp => h p (List.mem_of_mem_take hp)
theorem OkR.drop {s : Int} {r : List (Int × Int)} (h : OkR s r) (k : Nat) : OkR s (r.drop k) := fun p hp => h p (List.mem_of_mem_drop hp)
theorem slH_dR (r : List (Int × Int)) (k : Nat) : slH (dR r) (.int (k : Nat)) = some (dR (r.take k)) := by
  unfold dR; rw [slH_nat, List.map_take]
theorem slL_dR (r : List (Int × Int)) (k : Nat) : slL (dR r) (.int (k : Nat)) = some (dR (r.drop k)) := by
  unfold dR; rw [slL_nat, List.map_drop]
theorem grps_ok {s : Nat} (at_ : AtG s) (hs : 2 ≤ s ∧ s ≤ 6) (h : T i_in_range = some f_in_range) (h1 : T i_check_size = some f_check_size) (h2 : T i_is_exchange = some f_is_exchange) (h3 : T i_are_exchanges = some f_are_exchanges) (h4 : T i_check_part = some f_check_part) (h5 : T i_moved = some f_moved) (h6 : T i_result_of = some f_result_of) (h7 : T i_groups_of = some f_groups_of) (h8 : T i_groups = some f_groups)
    (r : List (Int × Int)) (ok : OkR s r) (hl : (r.length : Int) ≤ s - 1) (k : Nat) (hk : k ≤ r.length) :
    run T (n + 5) i_groups [.int s, dR r, .int (k : Nat)] w = some (.val (dG (grp s (resL s (r.take k)))), w) := by
  rw [run_at h8 rfl (by decide)]
  have e1 := cpart_ok (T := T) (n := n) (w := w) h h1 h2 h3 h4 (s : Int) (by omega) r ok hl
  have e2 := inr_int (T := T) (n := n + 3) (w := w) h (k : Nat) 0 (r.length : Nat)
  have e3 := grpo_ok (T := T) (n := n + 1) (w := w) at_ hs h5 h6 h7 (r.take k) (ok.take k)
  have e4 : (0 ≤ ((k : Nat) : Int) ∧ ((k : Nat) : Int) ≤ (r.length : Nat)) := by omega
  simp only [e4, decide_true] at e2
  simp [f_groups, b_groups, fin, e1, e2, e3, lenP_dR, slH_dR]
theorem grps_no {s : Nat} (hs : 2 ≤ s ∧ s ≤ 6) (h : T i_in_range = some f_in_range) (h1 : T i_check_size = some f_check_size) (h2 : T i_is_exchange = some f_is_exchange) (h3 : T i_are_exchanges = some f_are_exchanges) (h4 : T i_check_part = some f_check_part) (h8 : T i_groups = some f_groups)
    (r : List (Int × Int)) (ok : OkR s r) (hl : (r.length : Int) ≤ s - 1) (d : D) (hd : d = .none ∨ d = .bool true ∨ ∃ k : Int, d = .int k ∧ ¬ (0 ≤ k ∧ k ≤ r.length)) :
    run T (n + 5) i_groups [.int s, dR r, d] w = some (.exc ⟨4, .none⟩, w) := by
  rw [run_at h8 rfl (by decide)]
  have e1 := cpart_ok (T := T) (n := n) (w := w) h h1 h2 h3 h4 (s : Int) (by omega) r ok hl
  rcases hd with rfl | rfl | ⟨k, rfl, hk⟩
  · have e2 := inr_none (T := T) (n := n + 3) (w := w) h 0 (r.length : Nat)
    simp [f_groups, b_groups, fin, e1, e2, lenP_dR]
  · have e2 := inr_bool (T := T) (n := n + 3) (w := w) h true 0 (r.length : Nat)
    simp [f_groups, b_groups, fin, e1, e2, lenP_dR]
  · have e2 := inr_int (T := T) (n := n + 3) (w := w) h k 0 (r.length : Nat)
    simp only [hk, decide_false] at e2
    simp [f_groups, b_groups, fin, e1, e2, lenP_dR]
end
end Rx

set_option Elab.async false
set_option linter.all false
set_option maxRecDepth 100000
set_option autoImplicit false
namespace Rx
open PySem
/-! ### what is left to be moved, of where each place is moved -/
def ndL (s : Nat) (ms : List Int) : List Int := (rngI s).map fun p => (((ms.idxOf p : Nat) : Int) + 1) % s
def cycL (f : List Int) (x : Int) : Nat → Int → List Int
  | 0, _ => []
  | n + 1, y => y :: (if f.getD y.toNat 0 = x then [] else cycL f x n (f.getD y.toNat 0))
def rgrp (s : Nat) (ms : List Int) : List (List Int) := (rngI s).filterMap fun x => if (orb (ndL s ms) s x).all (fun y => decide (x ≤ y)) then some (cycL (ndL s ms) x s x) else none
def nc (s : Nat) (ms : List Int) : Nat := (rgrp s ms).length
def stepOk (s : Nat) (ms : List Int) : Bool := (pairsL s).all fun e => Nat.ble (nc s (ms.map (mv e))) (nc s ms + 1)
def fR (s : Nat) (c : Cf) (row : Option D) (w : Om) (ms : List Int) : Option (Out × Om) := t_rest_groups c [some (.int s), row, some (dX ms), none, none, none, none, none, none] w
def dLL (g : List (List Int)) : D := .list (g.map fun x => .list (x.map .int))
def oR (s : Nat) (w : Om) (ms : List Int) : Option (Out × Om) := some (.ret (dLL (rgrp s ms)), w)
end Rx

set_option Elab.async false
set_option linter.all false
set_option maxRecDepth 100000
set_option autoImplicit false
namespace Rx
open PySem
theorem st2 : (permsOf (rngI 2)).all (stepOk 2) = true := by decide +kernel
theorem st3 : (permsOf (rngI 3)).all (stepOk 3) = true := by decide +kernel
theorem st4 : (permsOf (rngI 4)).all (stepOk 4) = true := by decide +kernel
theorem st5 : (permsOf (rngI 5)).all (stepOk 5) = true := by decide +kernel
theorem st6_0 : (ch6 0).all (stepOk 6) = true := by decide +kernel
theorem st6_1 : (ch6 1).all (stepOk 6) = true := by decide +kernel
theorem st6_2 : (ch6 2).all (stepOk 6) = true := by decide +kernel
theorem st6_3 : (ch6 3).all (stepOk 6) = true := by decide +kernel
theorem st6_4 : (ch6 4).all (stepOk 6) = true := by decide +kernel
theorem st6_5 : (ch6 5).all (stepOk 6) = true := by decide +kernel
theorem st6_6 : (ch6 6).all (stepOk 6) = true := by decide +kernel
theorem st6_7 : (ch6 7).all (stepOk 6) = true := by decide +kernel
theorem st6_8 : (ch6 8).all (stepOk 6) = true := by decide +kernel
theorem st6_9 : (ch6 9).all (stepOk 6) = true := by decide +kernel
theorem st6_10 : (ch6 10).all (stepOk 6) = true := by decide +kernel
theorem st6_11 : (ch6 11).all (stepOk 6) = true := by decide +kernel
theorem st6_12 : (ch6 12).all (stepOk 6) = true := by decide +kernel
theorem st6_13 : (ch6 13).all (stepOk 6) = true := by decide +kernel
theorem st6_14 : (ch6 14).all (stepOk 6) = true := by decide +kernel
theorem st6_15 : (ch6 15).all (stepOk 6) = true := by decide +kernel
theorem st6_16 : (ch6 16).all (stepOk 6) = true := by decide +kernel
theorem st6_17 : (ch6 17).all (stepOk 6) = true := by decide +kernel
theorem st6_18 : (ch6 18).all (stepOk 6) = true := by decide +kernel
theorem st6_19 : (ch6 19).all (stepOk 6) = true := by decide +kernel
theorem st6_20 : (ch6 20).all (stepOk 6) = true := by decide +kernel
theorem st6_21 : (ch6 21).all (stepOk 6) = true := by decide +kernel
theorem st6_22 : (ch6 22).all (stepOk 6) = true := by decide +kernel
theorem st6_23 : (ch6 23).all (stepOk 6) = true := by decide +kernel
theorem st6 : ∀ i, i < 24 → (ch6 i).all (stepOk 6) = true
  | 0, _ => st6_0
  | 1, _ => st6_1
  | 2, _ => st6_2
  | 3, _ => st6_3
  | 4, _ => st6_4
  | 5, _ => st6_5
  | 6, _ => st6_6
  | 7, _ => st6_7
  | 8, _ => st6_8
  | 9, _ => st6_9
  | 10, _ => st6_10
  | 11, _ => st6_11
  | 12, _ => st6_12
  | 13, _ => st6_13
  | 14, _ => st6_14
  | 15, _ => st6_15
  | 16, _ => st6_16
  | 17, _ => st6_17
  | 18, _ => st6_18
  | 19, _ => st6_19
  | 20, _ => st6_20
  | 21, _ => st6_21
  | 22, _ => st6_22
  | 23, _ => st6_23
  | n + 24, h => by omega
theorem stAll : ∀ s : Nat, 2 ≤ s ∧ s ≤ 6 → ∀ ms ∈ permsOf (rngI s), stepOk s ms = true
  | 2, _ => fun ms hm => List.all_eq_true.mp st2 ms hm
  | 3, _ => fun ms hm => List.all_eq_true.mp st3 ms hm
  | 4, _ => fun ms hm => List.all_eq_true.mp st4 ms hm
  | 5, _ => fun ms hm => List.all_eq_true.mp st5 ms hm
  | 6, _ => fun ms hm => by
    obtain ⟨i, hi, hc⟩ := in_chunk (by decide) p6_len hm
    exact List.all_eq_true.mp (st6 i hi) ms hc
  | 0, h => by omega
  | 1, h => by omega
  | n + 7, h => by omega
theorem pairsL_in : ∀ {s : Nat}, 2 ≤ s ∧ s ≤ 6 → ∀ {p : Int × Int}, Ok s p → p ∈ pairsL s := by
  intro s hs p hp
  unfold Ok at hp
  unfold pairsL
  refine List.mem_flatMap.mpr ⟨p.1.toNat, List.mem_range.mpr (by omega), List.mem_map.mpr ⟨(p.2 - p.1 - 1).toNat, List.mem_range.mpr (by omega), ?_⟩⟩
  exact Prod.ext (by simp; omega) (by simp; omega)
theorem resL_snoc (s : Int) (r : List (Int × Int)) (e : Int × Int) : resL s (r ++ [e]) = (resL s r).map (mv e) := by
  unfold resL
  rw [List.map_map]
  refine List.map_congr_left fun i _ => ?_
  simp [sem_app, sem]
theorem nc_step {s : Nat} (hs : 2 ≤ s ∧ s ≤ 6) {r : List (Int × Int)} {e : Int × Int} (ok : OkR s r) (he : Ok s e) : nc s (resL s (r ++ [e])) ≤ nc s (resL s r) + 1 := by
  have h := stAll s hs _ (resL_perm ok)
  unfold stepOk at h
  have := List.all_eq_true.mp h e (pairsL_in hs he)
  rw [resL_snoc]
  exact Nat.le_of_ble_eq_true this
theorem nc_up {s : Nat} (hs : 2 ≤ s ∧ s ≤ 6) {r : List (Int × Int)} (ok : OkR s r) : ∀ (q : List (Int × Int)), OkR s q → nc s (resL s (r ++ q)) ≤ nc s (resL s r) + q.length
  | [], _ => by simp
  | e :: q, hq => by
    have h1 := nc_step hs ok (hq e (.head _))
    have ok2 : OkR s (r ++ [e]) := fun p hp => by
      rcases List.mem_append.mp hp with z | z
      · exact ok p z
      · rw [List.mem_singleton.mp z]; exact hq e (.head _)
    have h2 := nc_up hs ok2 q fun p hp => hq p (.tail _ hp)
    rw [List.append_assoc] at h2
    simp only [List.cons_append, List.nil_append] at h2
    rw [List.length_cons]
    omega
theorem nc_start : ∀ s : Nat, 2 ≤ s ∧ s ≤ 6 → nc s (resL s []) = 1
  | 2, _ => by decide +kernel
  | 3, _ => by decide +kernel
  | 4, _ => by decide +kernel
  | 5, _ => by decide +kernel
  | 6, _ => by decide +kernel
  | 0, h => by omega
  | 1, h => by omega
  | n + 7, h => by omega
theorem nc_end : ∀ s : Nat, 2 ≤ s ∧ s ≤ 6 → nc s (cyc s) = s
  | 2, _ => by decide +kernel
  | 3, _ => by decide +kernel
  | 4, _ => by decide +kernel
  | 5, _ => by decide +kernel
  | 6, _ => by decide +kernel
  | 0, h => by omega
  | 1, h => by omega
  | n + 7, h => by omega
/-- of a round list each exchange divides one group more -/
theorem nc_round {s : Nat} (hs : 2 ≤ s ∧ s ≤ 6) {r : List (Int × Int)} (ok : OkR s r) (hl : r.length + 1 = s) (hr : resL s r = cyc s) (k : Nat) (hk : k ≤ r.length) : nc s (resL s (r.take k)) = k + 1 := by
  have h1 := nc_up hs (r := []) (fun p hp => by cases hp) (r.take k) (ok.take k)
  have h2 := nc_up hs (ok.take k) (r.drop k) (ok.drop k)
  rw [List.take_append_drop, hr, nc_end s hs, List.length_drop] at h2
  rw [List.nil_append, nc_start s hs, List.length_take] at h1
  omega
end Rx

set_option Elab.async false
set_option linter.all false
set_option maxRecDepth 100000
set_option autoImplicit false
namespace Rx
open PySem
theorem cycL_len (f : List Int) (x : Int) : ∀ (n : Nat) (y : Int), (cycL f x n y).length ≤ n
  | 0, _ => Nat.le_refl _
  | n + 1, y => by
    unfold cycL
    split
    · simp
    · rw [List.length_cons]; exact Nat.succ_le_succ (cycL_len f x n _)
theorem rgrp_len {s : Nat} (hs : 1 ≤ s) {ms : List Int} {x : List Int} (h : x ∈ rgrp s ms) : 1 ≤ x.length ∧ x.length ≤ s := by
  unfold rgrp at h
  obtain ⟨y, hy, e⟩ := List.mem_filterMap.mp h
  split at e
  · cases e
    refine ⟨?_, cycL_len _ _ _ _⟩
    obtain ⟨m, rfl⟩ : ∃ m, s = m + 1 := ⟨s - 1, by omega⟩
    unfold cycL
    simp
  · cases e
section
variable {T : Tb} {n : Nat} {w : Om}
theorem rgrp_ok {s : Nat} (at_ : ∀ ms ∈ permsOf (rngI s), ∀ (c : Cf) (row : Option D) (w : Om), fR s c row w ms = oR s w ms) (hs : 2 ≤ s ∧ s ≤ 6) (h5 : T i_moved = some f_moved) (h6 : T i_result_of = some f_result_of) (h7 : T i_rest_groups = some f_rest_groups) (r : List (Int × Int)) (ok : OkR s r) :
    run T (n + 3) i_rest_groups [.int s, dR r] w = some (.val (dLL (rgrp s (resL s r))), w) := by
  rw [run_at h7 rfl (by decide)]
  have e := at_ _ (resL_perm ok) (run T (n + 2)) (some (dR r)) w
  unfold fR oR at e
  simp [f_rest_groups, b_rest_groups, result_ok h5 h6 (s : Int) (by omega) r]
  rw [e]
  rfl
def cpB : Sx := (sSeq (sAsg 6 (dC (.int 1)))
    (sSeq (sFor (iRng (dCons (dC (.int 2)) (dCons (dPrim .len (dCons (dVar 5) dNil)) dNil))) (.nm 4)
    (sSeq (sAug 3 .mul (dPrim .len (dCons (dVar 5) dNil)))
    (sAug 6 .mul (dVar 4))))
    (sAug 3 .fdiv (dVar 6))))
theorem lenP_ints (x : List Int) : lenP (.list (x.map .int)) = some (.int x.length) := by simp [lenP]
theorem mul_lit (i : Int) {j : Int} (h : small j = true) : mulP (.int i) (.int j) = some (.int (i * j)) := by simp [mulP, h]
theorem div_lit (i : Int) {j : Int} (h : 0 < j ∧ j < 1073741824) : fdivP (.int i) (.int j) = some (.int (i / j)) := by simp [fdivP, h]
theorem sAug_ev {c : Cf} {r : Env} {i : Nat} {p : Pr} {e : Ex} {a b v : Int} (h1 : r[i]? = some (some (.int a))) (h2 : e c r w = some (.val (.int b), w)) (h3 : prim p [.int a, .int b] = some (.int v)) : sAug i p e c r w = some (.next (r.set i (some (.int v))), w) := by
  unfold sAug
  rw [h1]
  simp only
  rw [h2]
  simp only
  rw [h3]
  rfl
theorem seq_next {a b : Sx} {c : Cf} {r r1 : Env} {w w1 : Om} (h : a c r w = some (.next r1, w1)) : sSeq a b c r w = b c r1 w1 := by
  unfold sSeq; rw [h]
theorem for_of {src : Exs} {tg : Tg} {body : Sx} {c : Cf} {r : Env} {w w1 : Om} {xs : List D} (h : src c r w = some (.vals xs, w1)) : sFor src tg body c r w = forGo c tg body xs r w1 := by
  unfold sFor; rw [h]
theorem forGo_cons {tg : Tg} {body : Sx} {c : Cf} {r r1 r2 : Env} {w w2 : Om} {x : D} {xs : List D} (h1 : bindT tg x r = some r1) (h2 : body c r1 w = some (.next r2, w2)) : forGo c tg body (x :: xs) r w = forGo c tg body xs r2 w2 := by
  rw [forGo, h1]
  simp only
  rw [h2]
def cpI : Sx := (sSeq (sAug 3 .mul (dPrim .len (dCons (dVar 5) dNil))) (sAug 6 .mul (dVar 4)))
theorem len5 {c : Cf} {r : Env} {x : List Int} (h5 : r[5]? = some (some (.list (x.map .int)))) : dPrim .len (dCons (dVar 5) dNil) c r w = some (.val (.int x.length), w) := by
  simp [h5, lenP_ints x]
theorem cpI_ok {c : Cf} {s0 r0 G : Option D} {x : List Int} (hx : small (x.length : Nat) = true) (R B k : Int) (hk : small k = true) :
    cpI c [s0, r0, G, some (.int R), some (.int k), some (.list (x.map .int)), some (.int B)] w = some (.next [s0, r0, G, some (.int (R * (x.length : Nat))), some (.int k), some (.list (x.map .int)), some (.int (B * k))], w) := by
  unfold cpI
  rw [seq_next (sAug_ev (p := .mul) (a := R) (b := (x.length : Nat)) (v := R * (x.length : Nat)) rfl (len5 rfl) (mul_lit R hx))]
  exact sAug_ev (a := B) (b := k) (v := B * k) rfl rfl (mul_lit B hk)
theorem cpR_ok {c : Cf} {s0 r0 G : Option D} {x : List Int} (hx : small (x.length : Nat) = true) : ∀ (ks : List Int), (∀ k ∈ ks, small k = true) → ∀ (R B : Int) (o4 : Option D),
    ∃ o4', forGo c (.nm 4) cpI (ks.map .int) [s0, r0, G, some (.int R), o4, some (.list (x.map .int)), some (.int B)] w = some (.next [s0, r0, G, some (.int (ks.foldl (fun R _ => R * (x.length : Nat)) R)), o4', some (.list (x.map .int)), some (.int (ks.foldl (· * ·) B))], w)
  | [], _, R, B, o4 => ⟨o4, rfl⟩
  | k :: ks, h, R, B, o4 => by
    obtain ⟨o, e⟩ := cpR_ok (c := c) (s0 := s0) (r0 := r0) (G := G) hx ks (fun y hy => h y (.tail _ hy)) (R * (x.length : Nat)) (B * k) (some (.int k))
    refine ⟨o, ?_⟩
    rw [List.map_cons, forGo_cons (r1 := [s0, r0, G, some (.int R), some (.int k), some (.list (x.map .int)), some (.int B)]) rfl (cpI_ok hx R B k (h k (.head _)))]
    exact e
theorem cp_end {c : Cf} {s0 r0 G : Option D} {x : List Int} (L : Nat) (ks : List Int) (R' B' : Int) (hx : x.length = L) (hL : inR (L : Int) = true) (hsm : small (L : Int) = true) (hks : rangeD 2 (L : Int) = ks.map .int) (hk : ∀ k ∈ ks, small k = true) (R : Int) (o4 o6 : Option D)
    (hR : ks.foldl (fun R _ => R * (L : Int)) R = R') (hB : ks.foldl (· * ·) 1 = B') (hB2 : 0 < B' ∧ B' < 1073741824) :
    ∃ o4' o6', cpB c [s0, r0, G, some (.int R), o4, some (.list (x.map .int)), o6] w = some (.next [s0, r0, G, some (.int (R' / B')), o4', some (.list (x.map .int)), o6'], w) := by
  subst hx
  obtain ⟨o, e⟩ := cpR_ok (w := w) (c := c) (s0 := s0) (r0 := r0) (G := G) hsm ks hk R 1 o4
  rw [hR, hB] at e
  refine ⟨o, some (.int B'), ?_⟩
  unfold cpB
  rw [seq_next (r1 := [s0, r0, G, some (.int R), o4, some (.list (x.map .int)), some (.int 1)]) rfl]
  have i2 : inR 2 = true := by decide
  rw [seq_next (r1 := [s0, r0, G, some (.int R'), o, some (.list (x.map .int)), some (.int B')]) (w1 := w) (by
    rw [for_of (e_iRng2 _ _ _ _ _ 2 (x.length : Nat) rfl (len5 rfl) i2 hL), hks]
    exact e)]
  exact sAug_ev (a := R') (b := B') (v := R' / B') rfl rfl (div_lit R' hB2)
theorem cpB_ok {c : Cf} {s0 r0 G : Option D} {x : List Int} (hx : 1 ≤ x.length ∧ x.length ≤ 6) (R : Int) (hR : 1 ≤ R) (o4 o6 : Option D) :
    ∃ R' o4' o6', 1 ≤ R' ∧ cpB c [s0, r0, G, some (.int R), o4, some (.list (x.map .int)), o6] w = some (.next [s0, r0, G, some (.int R'), o4', some (.list (x.map .int)), o6'], w) := by
  have hc : x.length = 1 ∨ x.length = 2 ∨ x.length = 3 ∨ x.length = 4 ∨ x.length = 5 ∨ x.length = 6 := by omega
  rcases hc with z | z | z | z | z | z
  · obtain ⟨p, q, e⟩ := cp_end (w := w) (c := c) (s0 := s0) (r0 := r0) (G := G) 1 [] R 1 z (by decide) (by decide) rfl (by decide) R o4 o6 rfl rfl (by decide)
    exact ⟨_, p, q, by omega, e⟩
  · obtain ⟨p, q, e⟩ := cp_end (w := w) (c := c) (s0 := s0) (r0 := r0) (G := G) 2 [] R 1 z (by decide) (by decide) rfl (by decide) R o4 o6 rfl rfl (by decide)
    exact ⟨_, p, q, by omega, e⟩
  · obtain ⟨p, q, e⟩ := cp_end (w := w) (c := c) (s0 := s0) (r0 := r0) (G := G) 3 [2] (R * 3) 2 z (by decide) (by decide) rfl (by decide) R o4 o6 rfl rfl (by decide)
    exact ⟨_, p, q, by omega, e⟩
  · obtain ⟨p, q, e⟩ := cp_end (w := w) (c := c) (s0 := s0) (r0 := r0) (G := G) 4 [2, 3] (R * 4 * 4) 6 z (by decide) (by decide) rfl (by decide) R o4 o6 rfl rfl (by decide)
    exact ⟨_, p, q, by omega, e⟩
  · obtain ⟨p, q, e⟩ := cp_end (w := w) (c := c) (s0 := s0) (r0 := r0) (G := G) 5 [2, 3, 4] (R * 5 * 5 * 5) 24 z (by decide) (by decide) rfl (by decide) R o4 o6 rfl rfl (by decide)
    exact ⟨_, p, q, by omega, e⟩
  · obtain ⟨p, q, e⟩ := cp_end (w := w) (c := c) (s0 := s0) (r0 := r0) (G := G) 6 [2, 3, 4, 5] (R * 6 * 6 * 6 * 6) 120 z (by decide) (by decide) rfl (by decide) R o4 o6 rfl rfl (by decide)
    exact ⟨_, p, q, by omega, e⟩
theorem cpL_ok {c : Cf} {s0 r0 G : Option D} : ∀ (g : List (List Int)), (∀ x ∈ g, 1 ≤ x.length ∧ x.length ≤ 6) → ∀ (R : Int) (hR : 1 ≤ R) (o4 o5 o6 : Option D),
    ∃ R' o4' o5' o6', 1 ≤ R' ∧ forGo c (.nm 5) cpB (g.map fun x => .list (x.map .int)) [s0, r0, G, some (.int R), o4, o5, o6] w = some (.next [s0, r0, G, some (.int R'), o4', o5', o6'], w)
  | [], _, R, hR, o4, o5, o6 => ⟨R, o4, o5, o6, hR, rfl⟩
  | x :: g, h, R, hR, o4, o5, o6 => by
    obtain ⟨R1, p4, p6, h1, e1⟩ := cpB_ok (w := w) (c := c) (s0 := s0) (r0 := r0) (G := G) (h x (.head _)) R hR o4 o6
    obtain ⟨R2, q4, q5, q6, h2, e2⟩ := cpL_ok (c := c) (s0 := s0) (r0 := r0) (G := G) g (fun y hy => h y (.tail _ hy)) R1 h1 p4 (some (.list (x.map .int))) p6
    refine ⟨R2, q4, q5, q6, h2, ?_⟩
    rw [List.map_cons, forGo_cons (r1 := [s0, r0, G, some (.int R), o4, some (.list (x.map .int)), o6]) rfl e1]
    exact e2
theorem comp_ok {s : Nat} (at_ : ∀ ms ∈ permsOf (rngI s), ∀ (c : Cf) (row : Option D) (w : Om), fR s c row w ms = oR s w ms) (hs : 2 ≤ s ∧ s ≤ 6) (h5 : T i_moved = some f_moved) (h6 : T i_result_of = some f_result_of) (h7 : T i_rest_groups = some f_rest_groups) (h8 : T i_completions_of = some f_completions_of) (r : List (Int × Int)) (ok : OkR s r) (hl : r.length + 1 ≤ s) :
    ∃ v : Int, run T (n + 4) i_completions_of [.int s, dR r] w = some (.val (.int v), w) ∧ 0 ≤ v ∧ (0 < v ↔ nc s (resL s r) = r.length + 1) := by
  have e0 := rgrp_ok (T := T) (n := n) (w := w) at_ hs h5 h6 h7 r ok
  have gl : ∀ x ∈ rgrp s (resL s r), 1 ≤ x.length ∧ x.length ≤ 6 := fun x hx => by
    have := rgrp_len (by omega) hx
    omega
  have ln : lenP (dLL (rgrp s (resL s r))) = some (.int (nc s (resL s r))) := by simp [lenP, dLL, nc]
  by_cases hc : nc s (resL s r) = r.length + 1
  · obtain ⟨L, hL⟩ : ∃ L : Nat, (L : Int) = (s : Int) - (r.length : Nat) := ⟨s - r.length, by omega⟩
    have hL2 : L = 1 ∨ L = 2 ∨ L = 3 ∨ L = 4 ∨ L = 5 ∨ L = 6 := by omega
    obtain ⟨F, hF, o4, e1⟩ : ∃ F : Int, 1 ≤ F ∧ ∃ o4, forGo (run T (n + 3)) (.nm 4) (sAug 3 .mul (dVar 4)) (rangeD 1 (L : Int)) [some (.int s), some (dR r), some (dLL (rgrp s (resL s r))), some (.int 1), none, none, none] w = some (.next [some (.int s), some (dR r), some (dLL (rgrp s (resL s r))), some (.int F), o4, none, none], w) := by
      rcases hL2 with rfl | rfl | rfl | rfl | rfl | rfl
      · exact ⟨1, by decide, none, rfl⟩
      · exact ⟨1, by decide, some (.int 1), rfl⟩
      · exact ⟨2, by decide, some (.int 2), rfl⟩
      · exact ⟨6, by decide, some (.int 3), rfl⟩
      · exact ⟨24, by decide, some (.int 4), rfl⟩
      · exact ⟨120, by decide, some (.int 5), rfl⟩
    obtain ⟨R', p4, p5, p6, hR', e2⟩ := cpL_ok (w := w) (c := run T (n + 3)) (s0 := some (.int s)) (r0 := some (dR r)) (G := some (dLL (rgrp s (resL s r)))) (rgrp s (resL s r)) gl F hF o4 none none
    refine ⟨R', ?_, by omega, ⟨fun _ => hc, fun _ => by omega⟩⟩
    rw [run_at h8 rfl (by decide)]
    have i1 : inR (L : Int) = true := by
      rcases hL2 with rfl | rfl | rfl | rfl | rfl | rfl <;> rfl
    have hcc : ((s : Int) - (nc s (resL s r) : Nat) = (s : Int) - 1 - (r.length : Nat)) := by omega
    have hit : items (dLL (rgrp s (resL s r))) = some ((rgrp s (resL s r)).map fun x => .list (x.map .int)) := rfl
    have r1 : iRng (dCons (dC (.int 1)) (dCons (dPrim .sub (dCons (dVar 0) (dCons (dPrim .len (dCons (dVar 1) dNil)) dNil))) dNil)) (run T (n + 3)) [some (.int s), some (dR r), some (dLL (rgrp s (resL s r))), some (.int 1), none, none, none] w = some (.vals (rangeD 1 (L : Int)), w) :=
      e_iRng2 _ _ _ _ _ 1 (L : Int) rfl (by simp [lenP_dR]; omega) rfl i1
    have i0 : dPrim .ne (dCons (dPrim .sub (dCons (dVar 0) (dCons (dPrim .len (dCons (dVar 2) dNil)) dNil))) (dCons (dPrim .sub (dCons (dPrim .sub (dCons (dVar 0) (dCons (dC (.int 1)) dNil))) (dCons (dPrim .len (dCons (dVar 1) dNil)) dNil))) dNil)) (run T (n + 3)) [some (.int s), some (dR r), some (dLL (rgrp s (resL s r))), none, none, none, none] w = some (.val (.bool false), w) := by
      simp [ln, lenP_dR, hcc]
    show fin (sSeq _ (sSeq _ (sSeq _ (sSeq _ (sSeq (sFor (iSeq (dVar 2)) (.nm 5) cpB) (sRet (dVar 3)))))) (run T (n + 3)) [some (.int s), some (dR r), none, none, none, none, none] w) = _
    rw [seq_next (r1 := [some (.int s), some (dR r), some (dLL (rgrp s (resL s r))), none, none, none, none]) (w1 := w) (by simp [e0])]
    rw [seq_next (r1 := [some (.int s), some (dR r), some (dLL (rgrp s (resL s r))), none, none, none, none]) (w1 := w) (by rw [e_sIf, i0]; rfl)]
    rw [seq_next (r1 := [some (.int s), some (dR r), some (dLL (rgrp s (resL s r))), some (.int 1), none, none, none]) (w1 := w) rfl]
    rw [seq_next (r1 := [some (.int s), some (dR r), some (dLL (rgrp s (resL s r))), some (.int F), o4, none, none]) (w1 := w) (by rw [for_of r1]; exact e1)]
    rw [seq_next (r1 := [some (.int s), some (dR r), some (dLL (rgrp s (resL s r))), some (.int R'), p4, p5, p6]) (w1 := w) (by rw [for_of (xs := (rgrp s (resL s r)).map fun x => .list (x.map .int)) rfl]; exact e2)]
    rfl
  · refine ⟨0, ?_, by omega, ⟨fun h => by omega, fun h => absurd h hc⟩⟩
    rw [run_at h8 rfl (by decide)]
    have hcc : ¬ ((s : Int) - (nc s (resL s r) : Nat) = (s : Int) - 1 - (r.length : Nat)) := by omega
    simp [f_completions_of, b_completions_of, fin, e0, ln, lenP_dR, hcc]
end
end Rx

set_option Elab.async false
set_option linter.all false
set_option maxRecDepth 100000
set_option autoImplicit false
namespace Rx
open PySem
/-! ### what the first exchanges of round lists do: where each place is moved, how many they are, which may follow -/
abbrev Row := List Int × Nat × List ((Int × Int) × Nat)
def tab2 : List Row := [([0, 1], 0, [((0, 1), 1)]),
  ([1, 0], 1, [])]
def tab3 : List Row := [([0, 1, 2], 0, [((0, 1), 1), ((0, 2), 2), ((1, 2), 3)]),
  ([1, 0, 2], 1, [((0, 2), 4)]),
  ([2, 1, 0], 1, [((1, 2), 4)]),
  ([0, 2, 1], 1, [((0, 1), 4)]),
  ([1, 2, 0], 2, [])]
def tab4 : List Row := [([0, 1, 2, 3], 0, [((0, 1), 1), ((0, 2), 2), ((0, 3), 3), ((1, 2), 4), ((1, 3), 5), ((2, 3), 6)]),
  ([1, 0, 2, 3], 1, [((0, 2), 7), ((0, 3), 8), ((2, 3), 9)]),
  ([2, 1, 0, 3], 1, [((0, 3), 10), ((1, 2), 7)]),
  ([3, 1, 2, 0], 1, [((1, 2), 11), ((1, 3), 8), ((2, 3), 10)]),
  ([0, 2, 1, 3], 1, [((0, 1), 7), ((0, 3), 11), ((1, 3), 12)]),
  ([0, 3, 2, 1], 1, [((0, 1), 8), ((2, 3), 12)]),
  ([0, 1, 3, 2], 1, [((0, 1), 9), ((0, 2), 10), ((1, 2), 12)]),
  ([1, 2, 0, 3], 2, [((0, 3), 13)]),
  ([1, 3, 2, 0], 2, [((2, 3), 13)]),
  ([1, 0, 3, 2], 2, [((0, 2), 13)]),
  ([2, 1, 3, 0], 2, [((1, 2), 13)]),
  ([3, 2, 1, 0], 2, [((1, 3), 13)]),
  ([0, 2, 3, 1], 2, [((0, 1), 13)]),
  ([1, 2, 3, 0], 3, [])]
def tab5 : List Row := [([0, 1, 2, 3, 4], 0, [((0, 1), 1), ((0, 2), 2), ((0, 3), 3), ((0, 4), 4), ((1, 2), 5), ((1, 3), 6), ((1, 4), 7), ((2, 3), 8), ((2, 4), 9), ((3, 4), 10)]),
  ([1, 0, 2, 3, 4], 1, [((0, 2), 11), ((0, 3), 12), ((0, 4), 13), ((2, 3), 14), ((2, 4), 15), ((3, 4), 16)]),
  ([2, 1, 0, 3, 4], 1, [((0, 3), 17), ((0, 4), 18), ((1, 2), 11), ((3, 4), 19)]),
  ([3, 1, 2, 0, 4], 1, [((0, 4), 20), ((1, 2), 21), ((1, 3), 12), ((2, 3), 17)]),
  ([4, 1, 2, 3, 0], 1, [((1, 2), 22), ((1, 3), 23), ((1, 4), 13), ((2, 3), 24), ((2, 4), 18), ((3, 4), 20)]),
  ([0, 2, 1, 3, 4], 1, [((0, 1), 11), ((0, 3), 21), ((0, 4), 22), ((1, 3), 25), ((1, 4), 26), ((3, 4), 27)]),
  ([0, 3, 2, 1, 4], 1, [((0, 1), 12), ((0, 4), 23), ((1, 4), 28), ((2, 3), 25)]),
  ([0, 4, 2, 3, 1], 1, [((0, 1), 13), ((2, 3), 29), ((2, 4), 26), ((3, 4), 28)]),
  ([0, 1, 3, 2, 4], 1, [((0, 1), 14), ((0, 2), 17), ((0, 4), 24), ((1, 2), 25), ((1, 4), 29), ((2, 4), 30)]),
  ([0, 1, 4, 3, 2], 1, [((0, 1), 15), ((0, 2), 18), ((1, 2), 26), ((3, 4), 30)]),
  ([0, 1, 2, 4, 3], 1, [((0, 1), 16), ((0, 2), 19), ((0, 3), 20), ((1, 2), 27), ((1, 3), 28), ((2, 3), 30)]),
  ([1, 2, 0, 3, 4], 2, [((0, 3), 31), ((0, 4), 32), ((3, 4), 33)]),
  ([1, 3, 2, 0, 4], 2, [((0, 4), 34), ((2, 3), 31)]),
  ([1, 4, 2, 3, 0], 2, [((2, 3), 35), ((2, 4), 32), ((3, 4), 34)]),
  ([1, 0, 3, 2, 4], 2, [((0, 2), 31), ((0, 4), 35), ((2, 4), 36)]),
  ([1, 0, 4, 3, 2], 2, [((0, 2), 32), ((3, 4), 36)]),
  ([1, 0, 2, 4, 3], 2, [((0, 2), 33), ((0, 3), 34), ((2, 3), 36)]),
  ([2, 1, 3, 0, 4], 2, [((0, 4), 37), ((1, 2), 31)]),
  ([2, 1, 4, 3, 0], 2, [((1, 2), 32), ((3, 4), 37)]),
  ([2, 1, 0, 4, 3], 2, [((0, 3), 37), ((1, 2), 33)]),
  ([3, 1, 2, 4, 0], 2, [((1, 2), 38), ((1, 3), 34), ((2, 3), 37)]),
  ([3, 2, 1, 0, 4], 2, [((0, 4), 38), ((1, 3), 31)]),
  ([4, 2, 1, 3, 0], 2, [((1, 3), 39), ((1, 4), 32), ((3, 4), 38)]),
  ([4, 3, 2, 1, 0], 2, [((1, 4), 34), ((2, 3), 39)]),
  ([4, 1, 3, 2, 0], 2, [((1, 2), 39), ((1, 4), 35), ((2, 4), 37)]),
  ([0, 2, 3, 1, 4], 2, [((0, 1), 31), ((0, 4), 39), ((1, 4), 40)]),
  ([0, 2, 4, 3, 1], 2, [((0, 1), 32), ((3, 4), 40)]),
  ([0, 2, 1, 4, 3], 2, [((0, 1), 33), ((0, 3), 38), ((1, 3), 40)]),
  ([0, 3, 2, 4, 1], 2, [((0, 1), 34), ((2, 3), 40)]),
  ([0, 4, 3, 2, 1], 2, [((0, 1), 35), ((2, 4), 40)]),
  ([0, 1, 3, 4, 2], 2, [((0, 1), 36), ((0, 2), 37), ((1, 2), 40)]),
  ([1, 2, 3, 0, 4], 3, [((0, 4), 41)]),
  ([1, 2, 4, 3, 0], 3, [((3, 4), 41)]),
  ([1, 2, 0, 4, 3], 3, [((0, 3), 41)]),
  ([1, 3, 2, 4, 0], 3, [((2, 3), 41)]),
  ([1, 4, 3, 2, 0], 3, [((2, 4), 41)]),
  ([1, 0, 3, 4, 2], 3, [((0, 2), 41)]),
  ([2, 1, 3, 4, 0], 3, [((1, 2), 41)]),
  ([3, 2, 1, 4, 0], 3, [((1, 3), 41)]),
  ([4, 2, 3, 1, 0], 3, [((1, 4), 41)]),
  ([0, 2, 3, 4, 1], 3, [((0, 1), 41)]),
  ([1, 2, 3, 4, 0], 4, [])]
def tab6 : List Row := [([0, 1, 2, 3, 4, 5], 0, [((0, 1), 1), ((0, 2), 2), ((0, 3), 3), ((0, 4), 4), ((0, 5), 5), ((1, 2), 6), ((1, 3), 7), ((1, 4), 8), ((1, 5), 9), ((2, 3), 10), ((2, 4), 11), ((2, 5), 12), ((3, 4), 13), ((3, 5), 14), ((4, 5), 15)]),
  ([1, 0, 2, 3, 4, 5], 1, [((0, 2), 16), ((0, 3), 17), ((0, 4), 18), ((0, 5), 19), ((2, 3), 20), ((2, 4), 21), ((2, 5), 22), ((3, 4), 23), ((3, 5), 24), ((4, 5), 25)]),
  ([2, 1, 0, 3, 4, 5], 1, [((0, 3), 26), ((0, 4), 27), ((0, 5), 28), ((1, 2), 16), ((3, 4), 29), ((3, 5), 30), ((4, 5), 31)]),
  ([3, 1, 2, 0, 4, 5], 1, [((0, 4), 32), ((0, 5), 33), ((1, 2), 34), ((1, 3), 17), ((2, 3), 26), ((4, 5), 35)]),
  ([4, 1, 2, 3, 0, 5], 1, [((0, 5), 36), ((1, 2), 37), ((1, 3), 38), ((1, 4), 18), ((2, 3), 39), ((2, 4), 27), ((3, 4), 32)]),
  ([5, 1, 2, 3, 4, 0], 1, [((1, 2), 40), ((1, 3), 41), ((1, 4), 42), ((1, 5), 19), ((2, 3), 43), ((2, 4), 44), ((2, 5), 28), ((3, 4), 45), ((3, 5), 33), ((4, 5), 36)]),
  ([0, 2, 1, 3, 4, 5], 1, [((0, 1), 16), ((0, 3), 34), ((0, 4), 37), ((0, 5), 40), ((1, 3), 46), ((1, 4), 47), ((1, 5), 48), ((3, 4), 49), ((3, 5), 50), ((4, 5), 51)]),
  ([0, 3, 2, 1, 4, 5], 1, [((0, 1), 17), ((0, 4), 38), ((0, 5), 41), ((1, 4), 52), ((1, 5), 53), ((2, 3), 46), ((4, 5), 54)]),
  ([0, 4, 2, 3, 1, 5], 1, [((0, 1), 18), ((0, 5), 42), ((1, 5), 55), ((2, 3), 56), ((2, 4), 47), ((3, 4), 52)]),
  ([0, 5, 2, 3, 4, 1], 1, [((0, 1), 19), ((2, 3), 57), ((2, 4), 58), ((2, 5), 48), ((3, 4), 59), ((3, 5), 53), ((4, 5), 55)]),
  ([0, 1, 3, 2, 4, 5], 1, [((0, 1), 20), ((0, 2), 26), ((0, 4), 39), ((0, 5), 43), ((1, 2), 46), ((1, 4), 56), ((1, 5), 57), ((2, 4), 60), ((2, 5), 61), ((4, 5), 62)]),
  ([0, 1, 4, 3, 2, 5], 1, [((0, 1), 21), ((0, 2), 27), ((0, 5), 44), ((1, 2), 47), ((1, 5), 58), ((2, 5), 63), ((3, 4), 60)]),
  ([0, 1, 5, 3, 4, 2], 1, [((0, 1), 22), ((0, 2), 28), ((1, 2), 48), ((3, 4), 64), ((3, 5), 61), ((4, 5), 63)]),
  ([0, 1, 2, 4, 3, 5], 1, [((0, 1), 23), ((0, 2), 29), ((0, 3), 32), ((0, 5), 45), ((1, 2), 49), ((1, 3), 52), ((1, 5), 59), ((2, 3), 60), ((2, 5), 64), ((3, 5), 65)]),
  ([0, 1, 2, 5, 4, 3], 1, [((0, 1), 24), ((0, 2), 30), ((0, 3), 33), ((1, 2), 50), ((1, 3), 53), ((2, 3), 61), ((4, 5), 65)]),
  ([0, 1, 2, 3, 5, 4], 1, [((0, 1), 25), ((0, 2), 31), ((0, 3), 35), ((0, 4), 36), ((1, 2), 51), ((1, 3), 54), ((1, 4), 55), ((2, 3), 62), ((2, 4), 63), ((3, 4), 65)]),
  ([1, 2, 0, 3, 4, 5], 2, [((0, 3), 66), ((0, 4), 67), ((0, 5), 68), ((3, 4), 69), ((3, 5), 70), ((4, 5), 71)]),
  ([1, 3, 2, 0, 4, 5], 2, [((0, 4), 72), ((0, 5), 73), ((2, 3), 66), ((4, 5), 74)]),
  ([1, 4, 2, 3, 0, 5], 2, [((0, 5), 75), ((2, 3), 76), ((2, 4), 67), ((3, 4), 72)]),
  ([1, 5, 2, 3, 4, 0], 2, [((2, 3), 77), ((2, 4), 78), ((2, 5), 68), ((3, 4), 79), ((3, 5), 73), ((4, 5), 75)]),
  ([1, 0, 3, 2, 4, 5], 2, [((0, 2), 66), ((0, 4), 76), ((0, 5), 77), ((2, 4), 80), ((2, 5), 81), ((4, 5), 82)]),
  ([1, 0, 4, 3, 2, 5], 2, [((0, 2), 67), ((0, 5), 78), ((2, 5), 83), ((3, 4), 80)]),
  ([1, 0, 5, 3, 4, 2], 2, [((0, 2), 68), ((3, 4), 84), ((3, 5), 81), ((4, 5), 83)]),
  ([1, 0, 2, 4, 3, 5], 2, [((0, 2), 69), ((0, 3), 72), ((0, 5), 79), ((2, 3), 80), ((2, 5), 84), ((3, 5), 85)]),
  ([1, 0, 2, 5, 4, 3], 2, [((0, 2), 70), ((0, 3), 73), ((2, 3), 81), ((4, 5), 85)]),
  ([1, 0, 2, 3, 5, 4], 2, [((0, 2), 71), ((0, 3), 74), ((0, 4), 75), ((2, 3), 82), ((2, 4), 83), ((3, 4), 85)]),
  ([2, 1, 3, 0, 4, 5], 2, [((0, 4), 86), ((0, 5), 87), ((1, 2), 66), ((4, 5), 88)]),
  ([2, 1, 4, 3, 0, 5], 2, [((0, 5), 89), ((1, 2), 67), ((3, 4), 86)]),
  ([2, 1, 5, 3, 4, 0], 2, [((1, 2), 68), ((3, 4), 90), ((3, 5), 87), ((4, 5), 89)]),
  ([2, 1, 0, 4, 3, 5], 2, [((0, 3), 86), ((0, 5), 90), ((1, 2), 69), ((3, 5), 91)]),
  ([2, 1, 0, 5, 4, 3], 2, [((0, 3), 87), ((1, 2), 70), ((4, 5), 91)]),
  ([2, 1, 0, 3, 5, 4], 2, [((0, 3), 88), ((0, 4), 89), ((1, 2), 71), ((3, 4), 91)]),
  ([3, 1, 2, 4, 0, 5], 2, [((0, 5), 92), ((1, 2), 93), ((1, 3), 72), ((2, 3), 86)]),
  ([3, 1, 2, 5, 4, 0], 2, [((1, 2), 94), ((1, 3), 73), ((2, 3), 87), ((4, 5), 92)]),
  ([3, 2, 1, 0, 4, 5], 2, [((0, 4), 93), ((0, 5), 94), ((1, 3), 66), ((4, 5), 95)]),
  ([3, 1, 2, 0, 5, 4], 2, [((0, 4), 92), ((1, 2), 95), ((1, 3), 74), ((2, 3), 88)]),
  ([4, 1, 2, 3, 5, 0], 2, [((1, 2), 96), ((1, 3), 97), ((1, 4), 75), ((2, 3), 98), ((2, 4), 89), ((3, 4), 92)]),
  ([4, 2, 1, 3, 0, 5], 2, [((0, 5), 96), ((1, 3), 99), ((1, 4), 67), ((3, 4), 93)]),
  ([4, 3, 2, 1, 0, 5], 2, [((0, 5), 97), ((1, 4), 72), ((2, 3), 99)]),
  ([4, 1, 3, 2, 0, 5], 2, [((0, 5), 98), ((1, 2), 99), ((1, 4), 76), ((2, 4), 86)]),
  ([5, 2, 1, 3, 4, 0], 2, [((1, 3), 100), ((1, 4), 101), ((1, 5), 68), ((3, 4), 102), ((3, 5), 94), ((4, 5), 96)]),
  ([5, 3, 2, 1, 4, 0], 2, [((1, 4), 103), ((1, 5), 73), ((2, 3), 100), ((4, 5), 97)]),
  ([5, 4, 2, 3, 1, 0], 2, [((1, 5), 75), ((2, 3), 104), ((2, 4), 101), ((3, 4), 103)]),
  ([5, 1, 3, 2, 4, 0], 2, [((1, 2), 100), ((1, 4), 104), ((1, 5), 77), ((2, 4), 105), ((2, 5), 87), ((4, 5), 98)]),
  ([5, 1, 4, 3, 2, 0], 2, [((1, 2), 101), ((1, 5), 78), ((2, 5), 89), ((3, 4), 105)]),
  ([5, 1, 2, 4, 3, 0], 2, [((1, 2), 102), ((1, 3), 103), ((1, 5), 79), ((2, 3), 105), ((2, 5), 90), ((3, 5), 92)]),
  ([0, 2, 3, 1, 4, 5], 2, [((0, 1), 66), ((0, 4), 99), ((0, 5), 100), ((1, 4), 106), ((1, 5), 107), ((4, 5), 108)]),
  ([0, 2, 4, 3, 1, 5], 2, [((0, 1), 67), ((0, 5), 101), ((1, 5), 109), ((3, 4), 106)]),
  ([0, 2, 5, 3, 4, 1], 2, [((0, 1), 68), ((3, 4), 110), ((3, 5), 107), ((4, 5), 109)]),
  ([0, 2, 1, 4, 3, 5], 2, [((0, 1), 69), ((0, 3), 93), ((0, 5), 102), ((1, 3), 106), ((1, 5), 110), ((3, 5), 111)]),
  ([0, 2, 1, 5, 4, 3], 2, [((0, 1), 70), ((0, 3), 94), ((1, 3), 107), ((4, 5), 111)]),
  ([0, 2, 1, 3, 5, 4], 2, [((0, 1), 71), ((0, 3), 95), ((0, 4), 96), ((1, 3), 108), ((1, 4), 109), ((3, 4), 111)]),
  ([0, 3, 2, 4, 1, 5], 2, [((0, 1), 72), ((0, 5), 103), ((1, 5), 112), ((2, 3), 106)]),
  ([0, 3, 2, 5, 4, 1], 2, [((0, 1), 73), ((2, 3), 107), ((4, 5), 112)]),
  ([0, 3, 2, 1, 5, 4], 2, [((0, 1), 74), ((0, 4), 97), ((1, 4), 112), ((2, 3), 108)]),
  ([0, 4, 2, 3, 5, 1], 2, [((0, 1), 75), ((2, 3), 113), ((2, 4), 109), ((3, 4), 112)]),
  ([0, 4, 3, 2, 1, 5], 2, [((0, 1), 76), ((0, 5), 104), ((1, 5), 113), ((2, 4), 106)]),
  ([0, 5, 3, 2, 4, 1], 2, [((0, 1), 77), ((2, 4), 114), ((2, 5), 107), ((4, 5), 113)]),
  ([0, 5, 4, 3, 2, 1], 2, [((0, 1), 78), ((2, 5), 109), ((3, 4), 114)]),
  ([0, 5, 2, 4, 3, 1], 2, [((0, 1), 79), ((2, 3), 114), ((2, 5), 110), ((3, 5), 112)]),
  ([0, 1, 3, 4, 2, 5], 2, [((0, 1), 80), ((0, 2), 86), ((0, 5), 105), ((1, 2), 106), ((1, 5), 114), ((2, 5), 115)]),
  ([0, 1, 3, 5, 4, 2], 2, [((0, 1), 81), ((0, 2), 87), ((1, 2), 107), ((4, 5), 115)]),
  ([0, 1, 3, 2, 5, 4], 2, [((0, 1), 82), ((0, 2), 88), ((0, 4), 98), ((1, 2), 108), ((1, 4), 113), ((2, 4), 115)]),
  ([0, 1, 4, 3, 5, 2], 2, [((0, 1), 83), ((0, 2), 89), ((1, 2), 109), ((3, 4), 115)]),
  ([0, 1, 5, 4, 3, 2], 2, [((0, 1), 84), ((0, 2), 90), ((1, 2), 110), ((3, 5), 115)]),
  ([0, 1, 2, 4, 5, 3], 2, [((0, 1), 85), ((0, 2), 91), ((0, 3), 92), ((1, 2), 111), ((1, 3), 112), ((2, 3), 115)]),
  ([1, 2, 3, 0, 4, 5], 3, [((0, 4), 116), ((0, 5), 117), ((4, 5), 118)]),
  ([1, 2, 4, 3, 0, 5], 3, [((0, 5), 119), ((3, 4), 116)]),
  ([1, 2, 5, 3, 4, 0], 3, [((3, 4), 120), ((3, 5), 117), ((4, 5), 119)]),
  ([1, 2, 0, 4, 3, 5], 3, [((0, 3), 116), ((0, 5), 120), ((3, 5), 121)]),
  ([1, 2, 0, 5, 4, 3], 3, [((0, 3), 117), ((4, 5), 121)]),
  ([1, 2, 0, 3, 5, 4], 3, [((0, 3), 118), ((0, 4), 119), ((3, 4), 121)]),
  ([1, 3, 2, 4, 0, 5], 3, [((0, 5), 122), ((2, 3), 116)]),
  ([1, 3, 2, 5, 4, 0], 3, [((2, 3), 117), ((4, 5), 122)]),
  ([1, 3, 2, 0, 5, 4], 3, [((0, 4), 122), ((2, 3), 118)]),
  ([1, 4, 2, 3, 5, 0], 3, [((2, 3), 123), ((2, 4), 119), ((3, 4), 122)]),
  ([1, 4, 3, 2, 0, 5], 3, [((0, 5), 123), ((2, 4), 116)]),
  ([1, 5, 3, 2, 4, 0], 3, [((2, 4), 124), ((2, 5), 117), ((4, 5), 123)]),
  ([1, 5, 4, 3, 2, 0], 3, [((2, 5), 119), ((3, 4), 124)]),
  ([1, 5, 2, 4, 3, 0], 3, [((2, 3), 124), ((2, 5), 120), ((3, 5), 122)]),
  ([1, 0, 3, 4, 2, 5], 3, [((0, 2), 116), ((0, 5), 124), ((2, 5), 125)]),
  ([1, 0, 3, 5, 4, 2], 3, [((0, 2), 117), ((4, 5), 125)]),
  ([1, 0, 3, 2, 5, 4], 3, [((0, 2), 118), ((0, 4), 123), ((2, 4), 125)]),
  ([1, 0, 4, 3, 5, 2], 3, [((0, 2), 119), ((3, 4), 125)]),
  ([1, 0, 5, 4, 3, 2], 3, [((0, 2), 120), ((3, 5), 125)]),
  ([1, 0, 2, 4, 5, 3], 3, [((0, 2), 121), ((0, 3), 122), ((2, 3), 125)]),
  ([2, 1, 3, 4, 0, 5], 3, [((0, 5), 126), ((1, 2), 116)]),
  ([2, 1, 3, 5, 4, 0], 3, [((1, 2), 117), ((4, 5), 126)]),
  ([2, 1, 3, 0, 5, 4], 3, [((0, 4), 126), ((1, 2), 118)]),
  ([2, 1, 4, 3, 5, 0], 3, [((1, 2), 119), ((3, 4), 126)]),
  ([2, 1, 5, 4, 3, 0], 3, [((1, 2), 120), ((3, 5), 126)]),
  ([2, 1, 0, 4, 5, 3], 3, [((0, 3), 126), ((1, 2), 121)]),
  ([3, 1, 2, 4, 5, 0], 3, [((1, 2), 127), ((1, 3), 122), ((2, 3), 126)]),
  ([3, 2, 1, 4, 0, 5], 3, [((0, 5), 127), ((1, 3), 116)]),
  ([3, 2, 1, 5, 4, 0], 3, [((1, 3), 117), ((4, 5), 127)]),
  ([3, 2, 1, 0, 5, 4], 3, [((0, 4), 127), ((1, 3), 118)]),
  ([4, 2, 1, 3, 5, 0], 3, [((1, 3), 128), ((1, 4), 119), ((3, 4), 127)]),
  ([4, 3, 2, 1, 5, 0], 3, [((1, 4), 122), ((2, 3), 128)]),
  ([4, 1, 3, 2, 5, 0], 3, [((1, 2), 128), ((1, 4), 123), ((2, 4), 126)]),
  ([4, 2, 3, 1, 0, 5], 3, [((0, 5), 128), ((1, 4), 116)]),
  ([5, 2, 3, 1, 4, 0], 3, [((1, 4), 129), ((1, 5), 117), ((4, 5), 128)]),
  ([5, 2, 4, 3, 1, 0], 3, [((1, 5), 119), ((3, 4), 129)]),
  ([5, 2, 1, 4, 3, 0], 3, [((1, 3), 129), ((1, 5), 120), ((3, 5), 127)]),
  ([5, 3, 2, 4, 1, 0], 3, [((1, 5), 122), ((2, 3), 129)]),
  ([5, 4, 3, 2, 1, 0], 3, [((1, 5), 123), ((2, 4), 129)]),
  ([5, 1, 3, 4, 2, 0], 3, [((1, 2), 129), ((1, 5), 124), ((2, 5), 126)]),
  ([0, 2, 3, 4, 1, 5], 3, [((0, 1), 116), ((0, 5), 129), ((1, 5), 130)]),
  ([0, 2, 3, 5, 4, 1], 3, [((0, 1), 117), ((4, 5), 130)]),
  ([0, 2, 3, 1, 5, 4], 3, [((0, 1), 118), ((0, 4), 128), ((1, 4), 130)]),
  ([0, 2, 4, 3, 5, 1], 3, [((0, 1), 119), ((3, 4), 130)]),
  ([0, 2, 5, 4, 3, 1], 3, [((0, 1), 120), ((3, 5), 130)]),
  ([0, 2, 1, 4, 5, 3], 3, [((0, 1), 121), ((0, 3), 127), ((1, 3), 130)]),
  ([0, 3, 2, 4, 5, 1], 3, [((0, 1), 122), ((2, 3), 130)]),
  ([0, 4, 3, 2, 5, 1], 3, [((0, 1), 123), ((2, 4), 130)]),
  ([0, 5, 3, 4, 2, 1], 3, [((0, 1), 124), ((2, 5), 130)]),
  ([0, 1, 3, 4, 5, 2], 3, [((0, 1), 125), ((0, 2), 126), ((1, 2), 130)]),
  ([1, 2, 3, 4, 0, 5], 4, [((0, 5), 131)]),
  ([1, 2, 3, 5, 4, 0], 4, [((4, 5), 131)]),
  ([1, 2, 3, 0, 5, 4], 4, [((0, 4), 131)]),
  ([1, 2, 4, 3, 5, 0], 4, [((3, 4), 131)]),
  ([1, 2, 5, 4, 3, 0], 4, [((3, 5), 131)]),
  ([1, 2, 0, 4, 5, 3], 4, [((0, 3), 131)]),
  ([1, 3, 2, 4, 5, 0], 4, [((2, 3), 131)]),
  ([1, 4, 3, 2, 5, 0], 4, [((2, 4), 131)]),
  ([1, 5, 3, 4, 2, 0], 4, [((2, 5), 131)]),
  ([1, 0, 3, 4, 5, 2], 4, [((0, 2), 131)]),
  ([2, 1, 3, 4, 5, 0], 4, [((1, 2), 131)]),
  ([3, 2, 1, 4, 5, 0], 4, [((1, 3), 131)]),
  ([4, 2, 3, 1, 5, 0], 4, [((1, 4), 131)]),
  ([5, 2, 3, 4, 1, 0], 4, [((1, 5), 131)]),
  ([0, 2, 3, 4, 5, 1], 4, [((0, 1), 131)]),
  ([1, 2, 3, 4, 5, 0], 5, [])]
def tab : Nat → List Row
  | 2 => tab2
  | 3 => tab3
  | 4 => tab4
  | 5 => tab5
  | 6 => tab6
  | _ => []
def rowOk (s : Nat) (t : Row) : Bool := nc s t.1 == t.2.1 + 1 && ((pairsL s).filter fun e => nc s (t.1.map (mv e)) == t.2.1 + 2) == t.2.2.map (·.1) && t.2.2.all fun q => match (tab s)[q.2]? with
  | some u => u.1 == t.1.map (mv q.1) && u.2.1 == t.2.1 + 1
  | none => false
theorem tabOk2 : tab2.all (rowOk 2) = true := by decide +kernel
theorem tabOk3 : tab3.all (rowOk 3) = true := by decide +kernel
theorem tabOk4 : tab4.all (rowOk 4) = true := by decide +kernel
theorem tabOk5 : tab5.all (rowOk 5) = true := by decide +kernel
theorem tabOk6_0 : ((tab6.drop (12 * 0)).take 12).all (rowOk 6) = true := by decide +kernel
theorem tabOk6_1 : ((tab6.drop (12 * 1)).take 12).all (rowOk 6) = true := by decide +kernel
theorem tabOk6_2 : ((tab6.drop (12 * 2)).take 12).all (rowOk 6) = true := by decide +kernel
theorem tabOk6_3 : ((tab6.drop (12 * 3)).take 12).all (rowOk 6) = true := by decide +kernel
theorem tabOk6_4 : ((tab6.drop (12 * 4)).take 12).all (rowOk 6) = true := by decide +kernel
theorem tabOk6_5 : ((tab6.drop (12 * 5)).take 12).all (rowOk 6) = true := by decide +kernel
theorem tabOk6_6 : ((tab6.drop (12 * 6)).take 12).all (rowOk 6) = true := by decide +kernel
theorem tabOk6_7 : ((tab6.drop (12 * 7)).take 12).all (rowOk 6) = true := by decide +kernel
theorem tabOk6_8 : ((tab6.drop (12 * 8)).take 12).all (rowOk 6) = true := by decide +kernel
theorem tabOk6_9 : ((tab6.drop (12 * 9)).take 12).all (rowOk 6) = true := by decide +kernel
theorem tabOk6_10 : ((tab6.drop (12 * 10)).take 12).all (rowOk 6) = true := by decide +kernel
theorem tabOk6 : ∀ i, i < 11 → ((tab6.drop (12 * i)).take 12).all (rowOk 6) = true
  | 0, _ => tabOk6_0
  | 1, _ => tabOk6_1
  | 2, _ => tabOk6_2
  | 3, _ => tabOk6_3
  | 4, _ => tabOk6_4
  | 5, _ => tabOk6_5
  | 6, _ => tabOk6_6
  | 7, _ => tabOk6_7
  | 8, _ => tabOk6_8
  | 9, _ => tabOk6_9
  | 10, _ => tabOk6_10
  | n + 11, h => by omega
theorem tabOk : ∀ s : Nat, 2 ≤ s ∧ s ≤ 6 → ∀ t ∈ tab s, rowOk s t = true
  | 2, _ => fun t ht => List.all_eq_true.mp tabOk2 t ht
  | 3, _ => fun t ht => List.all_eq_true.mp tabOk3 t ht
  | 4, _ => fun t ht => List.all_eq_true.mp tabOk4 t ht
  | 5, _ => fun t ht => List.all_eq_true.mp tabOk5 t ht
  | 6, _ => fun t ht => by
    obtain ⟨i, hi, hc⟩ := in_chunk (k := 12) (m := 11) (by decide) (show tab6.length ≤ 12 * 11 by decide +kernel) ht
    exact List.all_eq_true.mp (tabOk6 i hi) t hc
  | 0, h => by omega
  | 1, h => by omega
  | n + 7, h => by omega
/-- the exchanges r lead to the row i of the table -/
structure At (s : Nat) (r : List (Int × Int)) (i : Nat) (t : Row) : Prop where
  at_ : (tab s)[i]? = some t
  ms : resL s r = t.1
  lv : r.length = t.2.1
  ok : OkR s r
theorem at_nil : ∀ s : Nat, 2 ≤ s ∧ s ≤ 6 → ∃ t, At s [] 0 t
  | 2, _ => ⟨_, rfl, by decide +kernel, rfl, fun p hp => by cases hp⟩
  | 3, _ => ⟨_, rfl, by decide +kernel, rfl, fun p hp => by cases hp⟩
  | 4, _ => ⟨_, rfl, by decide +kernel, rfl, fun p hp => by cases hp⟩
  | 5, _ => ⟨_, rfl, by decide +kernel, rfl, fun p hp => by cases hp⟩
  | 6, _ => ⟨_, rfl, by decide +kernel, rfl, fun p hp => by cases hp⟩
  | 0, h => by omega
  | 1, h => by omega
  | n + 7, h => by omega
theorem OkR.snoc {s : Int} {r : List (Int × Int)} {e : Int × Int} (h : OkR s r) (he : Ok s e) : OkR s (r ++ [e]) := fun p hp => by
  rcases List.mem_append.mp hp with z | z
  · exact h p z
  · rw [List.mem_singleton.mp z]; exact he
section
variable {s : Nat} {r : List (Int × Int)} {i : Nat} {t : Row}
theorem At.row (hs : 2 ≤ s ∧ s ≤ 6) (h : At s r i t) : nc s (resL s r) = r.length + 1 ∧ (∀ e, e ∈ t.2.2.map (·.1) ↔ e ∈ pairsL s ∧ nc s (resL s (r ++ [e])) = r.length + 2) ∧ ∀ q ∈ t.2.2, ∃ u, (tab s)[q.2]? = some u ∧ u.1 = t.1.map (mv q.1) ∧ u.2.1 = t.2.1 + 1 := by
  have k := tabOk s hs t (List.mem_of_getElem? h.at_)
  unfold rowOk at k
  simp only [Bool.and_eq_true, beq_iff_eq] at k
  obtain ⟨⟨k1, k2⟩, k3⟩ := k
  refine ⟨by rw [h.ms, k1, h.lv], fun e => ?_, fun q hq => ?_⟩
  · rw [← k2, List.mem_filter, resL_snoc, h.ms, h.lv, beq_iff_eq]
  · have z := List.all_eq_true.mp k3 q hq
    split at z
    · rename_i u hu
      simp only [Bool.and_eq_true, beq_iff_eq] at z
      exact ⟨u, hu, z.1, z.2⟩
    · cases z
/-- the next row -/
theorem At.next (hs : 2 ≤ s ∧ s ≤ 6) (h : At s r i t) {e : Int × Int} {j : Nat} (hq : (e, j) ∈ t.2.2) : Ok s e ∧ ∃ u, At s (r ++ [e]) j u := by
  obtain ⟨_, k2, k3⟩ := h.row hs
  obtain ⟨m1, _⟩ := (k2 e).mp (List.mem_map.mpr ⟨_, hq, rfl⟩)
  have oe := pairsL_ok m1
  obtain ⟨u, u1, u2, u3⟩ := k3 _ hq
  exact ⟨oe, u, u1, by rw [resL_snoc, h.ms, u2], by rw [List.length_append, h.lv, u3]; rfl, h.ok.snoc oe⟩
theorem At.ex (hs : 2 ≤ s ∧ s ≤ 6) (h : At s r i t) {e : Int × Int} (oe : Ok s e) : nc s (resL s (r ++ [e])) = (r ++ [e]).length + 1 ↔ ∃ j, (e, j) ∈ t.2.2 := by
  obtain ⟨_, k2, _⟩ := h.row hs
  rw [List.length_append]
  constructor
  · intro z
    obtain ⟨q, hq, rfl⟩ := List.mem_map.mp ((k2 e).mpr ⟨pairsL_in hs oe, z⟩)
    exact ⟨q.2, hq⟩
  · rintro ⟨j, hj⟩
    exact ((k2 e).mp (List.mem_map.mpr ⟨_, hj, rfl⟩)).2
end
/-- each first part of a round list is a row of the table -/
theorem round_at {s : Nat} (hs : 2 ≤ s ∧ s ≤ 6) {r : List (Int × Int)} (ok : OkR s r) (hl : r.length + 1 = s) (hr : resL s r = cyc s) : ∀ k, k ≤ r.length → ∃ i t, At s (r.take k) i t
  | 0, _ => by
    obtain ⟨t, h⟩ := at_nil s hs
    exact ⟨0, t, by simpa using h⟩
  | k + 1, hk => by
    obtain ⟨i, t, h⟩ := round_at hs ok hl hr k (by omega)
    have e1 : r.take (k + 1) = r.take k ++ [r[k]] := by rw [List.take_add_one, List.getElem?_eq_getElem (by omega)]; rfl
    have n1 := nc_round hs ok hl hr (k + 1) hk
    have oe : Ok s r[k] := ok _ (List.getElem_mem _)
    have hlen : (r.take k ++ [r[k]]).length = k + 1 := by simp; omega
    rw [e1] at n1 ⊢
    obtain ⟨j, hj⟩ := (h.ex hs oe).mp (by rw [n1, hlen])
    obtain ⟨_, u, hu⟩ := h.next hs hj
    exact ⟨j, u, hu⟩
end Rx

set_option Elab.async false
set_option linter.all false
set_option maxRecDepth 100000
set_option autoImplicit false
namespace Rx
open PySem
/-! ### lists_from, sizes up to 5 -/
theorem lr2 (c : Cf) (row : Option D) (w : Om) : (permsOf (rngI 2)).map (fR 2 c row w) = (permsOf (rngI 2)).map (oR 2 w) := by kernel_rfl
theorem lr3 (c : Cf) (row : Option D) (w : Om) : (permsOf (rngI 3)).map (fR 3 c row w) = (permsOf (rngI 3)).map (oR 3 w) := by kernel_rfl
theorem lr4 (c : Cf) (row : Option D) (w : Om) : (permsOf (rngI 4)).map (fR 4 c row w) = (permsOf (rngI 4)).map (oR 4 w) := by kernel_rfl
theorem lr5 (c : Cf) (row : Option D) (w : Om) : (permsOf (rngI 5)).map (fR 5 c row w) = (permsOf (rngI 5)).map (oR 5 w) := by kernel_rfl
theorem atF5 : ∀ s : Nat, 2 ≤ s ∧ s ≤ 5 → ∀ ms ∈ permsOf (rngI s), ∀ (c : Cf) (row : Option D) (w : Om), fR s c row w ms = oR s w ms
  | 2, _ => fun ms hm c row w => map_all (lr2 c row w) ms hm
  | 3, _ => fun ms hm c row w => map_all (lr3 c row w) ms hm
  | 4, _ => fun ms hm c row w => map_all (lr4 c row w) ms hm
  | 5, _ => fun ms hm c row w => map_all (lr5 c row w) ms hm
  | 0, h => by omega
  | 1, h => by omega
  | n + 6, h => by omega
/-- all round lists that go on from a state of the table -/
def lfT (s : Nat) : Nat → List (Int × Int) → Nat → List (List (Int × Int))
  | 0, r, _ => [r]
  | k + 1, r, i => match (tab s)[i]? with
    | none => []
    | some t => t.2.2.flatMap fun q => lfT s k (r ++ [q.1]) q.2
theorem flatLen {α β : Type} {f : α → List β} {m : Nat} : ∀ {l : List α}, (∀ a ∈ l, (f a).length ≤ m) → (l.flatMap f).length ≤ l.length * m
  | [], _ => by simp
  | a :: l, h => by
    have := flatLen (l := l) fun b hb => h b (List.mem_cons_of_mem _ hb)
    have := h a List.mem_cons_self
    rw [List.flatMap_cons, List.length_append, List.length_cons, Nat.add_mul]
    omega
def lfB : Sx := (sIf (dPrim .gt (dCons (dCall 16 (dCons (dVar 0) (dCons (dPrim .add (dCons (dVar 1) (dCons (dPrim .tup (dCons (dVar 3) dNil)) dNil))) dNil))) (dCons (dC (.int 0)) dNil)))
    (sExtend 2 (dCall 65 (dCons (dVar 0) (dCons (dPrim .add (dCons (dVar 1) (dCons (dPrim .tup (dCons (dVar 3) dNil)) dNil))) dNil))))
    sPass)
structure HLf (T : Tb) : Prop where
  h5 : T i_moved = some f_moved
  h6 : T i_result_of = some f_result_of
  h7 : T i_rest_groups = some f_rest_groups
  h8 : T i_completions_of = some f_completions_of
  h9 : T i_every_exchange = some f_every_exchange
  h10 : T i_lists_from = some f_lists_from
section
variable {T : Tb} {n : Nat} {w : Om}
theorem evx53 (h : T i_every_exchange = some f_every_exchange) {s : Nat} (hs : 2 ≤ s ∧ s ≤ 6) : run T (n + 1) i_every_exchange [.int (s : Nat)] w = some (.val (.list ((pairsL s).map pr)), w) := by
  rw [run_at h rfl (by decide)]
  have : s = 2 ∨ s = 3 ∨ s = 4 ∨ s = 5 ∨ s = 6 := by omega
  rcases this with rfl | rfl | rfl | rfl | rfl <;> rfl
theorem lfB_ok (h : HLf T) {s : Nat} (hs : 2 ≤ s ∧ s ≤ 5) {r : List (Int × Int)} (ok : OkR s r) (hl : r.length + 2 ≤ s) {e : Int × Int} (oe : Ok s e) (L : List (List (Int × Int))) (acc : List D) (hz : acc.length + L.length ≤ 100000) {b : Bool} (hb : nc s (resL s (r ++ [e])) = (r ++ [e]).length + 1 ↔ b = true)
    (ih : b = true → run T (n + 4) 65 [.int (s : Nat), dR (r ++ [e])] w = some (.val (.list (L.map dR)), w)) :
    lfB (run T (n + 4)) [some (.int (s : Nat)), some (dR r), some (.list acc), some (pr e)] w = some (.next [some (.int (s : Nat)), some (dR r), some (.list (acc ++ if b = true then L.map dR else [])), some (pr e)], w) := by
  obtain ⟨v, ev, _, vp⟩ := comp_ok (T := T) (n := n) (w := w) (atF5 s hs) (by omega) h.h5 h.h6 h.h7 h.h8 (r ++ [e]) (ok.snoc oe) (by simp; omega)
  replace ev : run T (n + 4) 16 [.int (s : Nat), dR (r ++ [e])] w = _ := ev
  have tp : tupP [pr e] = some (dR [e]) := rfl
  have a1 : addP (dR r) (dR [e]) = some (dR (r ++ [e])) := add_dR (by simp; unfold zL; omega)
  have pg : prim .gt [.int v, .int 0] = some (.bool b) := by
    rw [p_gt]
    congr 2
    rw [Bool.eq_iff_iff, decide_eq_true_eq, ← hb, ← vp]
  unfold lfB
  cases b with
  | false =>
    rw [if_neg (by decide), List.append_nil]
    simp only [e_sIf, e_dPrim, e_dCons, e_dVar, e_dC, e_dNil, e_dCall, List.getElem?_cons_succ, List.getElem?_cons_zero, p_tup, tp, Option.map_some, p_add, a1, ev, pg, truth_bool, e_sPass]
  | true =>
    rw [if_pos rfl]
    have ih := ih rfl
    have ex : sExtend 2 (dCall 65 (dCons (dVar 0) (dCons (dPrim .add (dCons (dVar 1) (dCons (dPrim .tup (dCons (dVar 3) dNil)) dNil))) dNil))) (run T (n + 4)) [some (.int (s : Nat)), some (dR r), some (.list acc), some (pr e)] w = some (.next [some (.int (s : Nat)), some (dR r), some (.list (acc ++ L.map dR)), some (pr e)], w) := by
      unfold sExtend
      simp only [e_dCall, e_dPrim, e_dCons, e_dVar, e_dNil, List.getElem?_cons_succ, List.getElem?_cons_zero, p_tup, tp, Option.map_some, p_add, a1, ih]
      rw [if_pos (by rw [List.length_map]; unfold zL; omega)]
      rfl
    simp only [e_sIf, e_dPrim, e_dCons, e_dVar, e_dC, e_dNil, e_dCall, List.getElem?_cons_succ, List.getElem?_cons_zero, p_tup, tp, Option.map_some, p_add, a1, ev, pg, truth_bool, ex]
theorem lf_loop (h : HLf T) {s : Nat} (hs : 2 ≤ s ∧ s ≤ 5) {r : List (Int × Int)} (ok : OkR s r) (hl : r.length + 2 ≤ s) (f : Int × Int → List (List (Int × Int))) (m : Nat) (hf : ∀ c, (f c).length ≤ m) (g : Int × Int → Bool)
    (hg : ∀ e, Ok s e → (nc s (resL s (r ++ [e])) = (r ++ [e]).length + 1 ↔ g e = true))
    (ih : ∀ e, Ok s e → g e = true → run T (n + 4) 65 [.int (s : Nat), dR (r ++ [e])] w = some (.val (.list ((f e).map dR)), w)) :
    ∀ (l : List (Int × Int)), (∀ c ∈ l, Ok s c) → ∀ (acc : List D), acc.length + l.length * m + m ≤ 100000 → ∀ o3 : Option D, ∃ o3', forGo (run T (n + 4)) (.nm 3) lfB (l.map pr) [some (.int (s : Nat)), some (dR r), some (.list acc), o3] w = some (.next [some (.int (s : Nat)), some (dR r), some (.list (acc ++ ((l.filter g).flatMap f).map dR)), o3'], w)
  | [], _, acc, _, o3 => ⟨o3, by simp [forGo]⟩
  | c :: l, hm, acc, hz, o3 => by
    rw [List.length_cons, Nat.add_mul] at hz
    have hc := hf c
    obtain ⟨o3', e⟩ := lf_loop h hs ok hl f m hf g hg ih l (fun d hd => hm d (List.mem_cons_of_mem _ hd)) (acc ++ if g c = true then (f c).map dR else []) (by
      split
      · rw [List.length_append, List.length_map]; omega
      · rw [List.append_nil]; omega) (some (pr c))
    refine ⟨o3', ?_⟩
    have oc := hm c List.mem_cons_self
    rw [List.map_cons, forGo_cons (r1 := [some (.int (s : Nat)), some (dR r), some (.list acc), some (pr c)]) rfl (lfB_ok h hs ok hl oc (f c) acc (by omega) (hg c oc) (ih c oc)), e, List.filter_cons]
    cases g c with
    | true => simp
    | false => simp
theorem lf_ok (h : HLf T) {s : Nat} (hs : 2 ≤ s ∧ s ≤ 5) : ∀ (k : Nat) (r : List (Int × Int)) (i : Nat) (t : Row), At s r i t → r.length + k + 1 = s → run T (n + k + 5) 65 [.int (s : Nat), dR r] w = some (.val (.list ((lfT s k r i).map dR)), w) ∧ (lfT s k r i).length ≤ 10 ^ k
  | 0, r, i, t, ha, hk => by
    refine ⟨?_, Nat.le_refl _⟩
    show run T (n + 5) i_lists_from [.int (s : Nat), dR r] w = _
    rw [run_at h.h10 rfl (by decide)]
    show fin (b_lists_from (run T (n + 4)) [some (.int (s : Nat)), some (dR r), none, none] w) = _
    obtain ⟨v, ev, _, vp⟩ := comp_ok (T := T) (n := n) (w := w) (atF5 s hs) (by omega) h.h5 h.h6 h.h7 h.h8 r ha.ok (by omega)
    replace ev : run T (n + 4) 16 [.int (s : Nat), dR r] w = _ := ev
    have e1 : eqP (.int (r.length : Nat)) (.int ((s : Int) - 1)) = some (.bool true) := by rw [eqP_int, decide_eq_true (by omega)]
    have pg : prim .gt [.int v, .int 0] = some (.bool true) := by
      rw [p_gt, decide_eq_true (vp.mpr (ha.row (by omega)).1)]
    have l1 : lstP [dR r] = some (.list [dR r]) := rfl
    unfold b_lists_from
    simp only [e_sSeq, e_sIf, e_dPrim, e_dCons, e_dVar, e_dC, e_dNil, e_dCall, e_dIte, List.getElem?_cons_succ, List.getElem?_cons_zero, p_len, lenP_dR, Option.map_some, p_sub, subP_int, p_eq, e1, truth_bool, e_sRet, ev, pg, p_lst, l1]
    rfl
  | k + 1, r, i, t, ha, hk => by
    have hs6 : 2 ≤ s ∧ s ≤ 6 := by omega
    have hun : lfT s (k + 1) r i = t.2.2.flatMap fun q => lfT s k (r ++ [q.1]) q.2 := by
      rw [lfT, ha.at_]
    have k2 : (pairsL s).filter (fun e => nc s (t.1.map (mv e)) == t.2.1 + 2) = t.2.2.map (·.1) := by
      have q := tabOk s hs6 t (List.mem_of_getElem? ha.at_)
      unfold rowOk at q
      simp only [Bool.and_eq_true, beq_iff_eq] at q
      exact q.1.2
    have nd : (t.2.2.map (·.1)).Nodup := by
      rw [← k2]
      refine List.Pairwise.filter _ ?_
      have : s = 2 ∨ s = 3 ∨ s = 4 ∨ s = 5 := by omega
      rcases this with rfl | rfl | rfl | rfl <;> decide
    -- the place in the table of an exchange that may follow
    have one : ∀ q ∈ t.2.2, (t.2.2.find? fun p => p.1 == q.1) = some q := fun q hq => by
      have key : ∀ l : List ((Int × Int) × Nat), (l.map (·.1)).Nodup → q ∈ l → (l.find? fun p => p.1 == q.1) = some q := fun l => by
        induction l with
        | nil => intro _ h; cases h
        | cons p l ih =>
          intro nd h
          rw [List.map_cons, List.nodup_cons] at nd
          rcases List.mem_cons.mp h with e | h
          · subst e; simp
          · rw [List.find?_cons_of_neg, ih nd.2 h]
            intro z
            have z := beq_iff_eq.mp z
            exact nd.1 (z ▸ List.mem_map.mpr ⟨q, h, rfl⟩)
      exact key _ nd hq
    let f : Int × Int → List (List (Int × Int)) := fun e => match t.2.2.find? fun p => p.1 == e with
      | none => []
      | some q => lfT s k (r ++ [q.1]) q.2
    let g : Int × Int → Bool := fun e => nc s (t.1.map (mv e)) == t.2.1 + 2
    have hg : ∀ e, Ok s e → (nc s (resL s (r ++ [e])) = (r ++ [e]).length + 1 ↔ g e = true) := fun e oe => by
      show _ ↔ (nc s (t.1.map (mv e)) == t.2.1 + 2) = true
      rw [resL_snoc, ha.ms, beq_iff_eq, List.length_append, List.length_singleton, ha.lv]
    have rec_ : ∀ q ∈ t.2.2, run T (n + k + 5) 65 [.int (s : Nat), dR (r ++ [q.1])] w = some (.val (.list ((lfT s k (r ++ [q.1]) q.2).map dR)), w) ∧ (lfT s k (r ++ [q.1]) q.2).length ≤ 10 ^ k := fun q hq => by
      obtain ⟨_, u, hu⟩ := ha.next hs6 (e := q.1) (j := q.2) hq
      exact lf_ok h hs k _ _ u hu (by simp; omega)
    have fq : ∀ q ∈ t.2.2, f q.1 = lfT s k (r ++ [q.1]) q.2 := fun q hq => by
      simp only [f, one q hq]
    have hf : ∀ e, (f e).length ≤ 10 ^ k := fun e => by
      simp only [f]
      cases hq : t.2.2.find? (fun p : (Int × Int) × Nat => p.1 == e) with
      | none => exact Nat.zero_le _
      | some q => exact (rec_ q (List.mem_of_find?_eq_some hq)).2
    have ih : ∀ e, Ok s e → g e = true → run T (n + k + 5) 65 [.int (s : Nat), dR (r ++ [e])] w = some (.val (.list ((f e).map dR)), w) := fun e oe he => by
      have : e ∈ t.2.2.map (·.1) := by rw [← k2]; exact List.mem_filter.mpr ⟨pairsL_in hs6 oe, he⟩
      obtain ⟨q, hq, rfl⟩ := List.mem_map.mp this
      rw [fq q hq]
      exact (rec_ q hq).1
    have flat : ((pairsL s).filter g).flatMap f = lfT s (k + 1) r i := by
      rw [hun, show (pairsL s).filter g = t.2.2.map (·.1) from k2, List.flatMap_map]
      have key : ∀ l : List ((Int × Int) × Nat), (∀ q ∈ l, q ∈ t.2.2) → (l.flatMap fun q => f q.1) = l.flatMap fun q => lfT s k (r ++ [q.1]) q.2 := fun l => by
        induction l with
        | nil => intro _; rfl
        | cons q l ih =>
          intro hl
          rw [List.flatMap_cons, List.flatMap_cons, ih fun p hp => hl p (List.mem_cons_of_mem _ hp), fq q (hl q List.mem_cons_self)]
      exact key _ fun q hq => hq
    have pl : (pairsL s).length ≤ 10 := by
      have : s = 2 ∨ s = 3 ∨ s = 4 ∨ s = 5 := by omega
      rcases this with rfl | rfl | rfl | rfl <;> decide
    have k4 : 10 ^ k ≤ 10 ^ 3 := Nat.pow_le_pow_right (by decide) (by omega)
    refine ⟨?_, ?_⟩
    · show run T (n + k + 1 + 5) i_lists_from [.int (s : Nat), dR r] w = _
      rw [run_at h.h10 rfl (by decide)]
      show fin (b_lists_from (run T (n + k + 5)) [some (.int (s : Nat)), some (dR r), none, none] w) = _
      have e1 : eqP (.int (r.length : Nat)) (.int ((s : Int) - 1)) = some (.bool false) := by rw [eqP_int, decide_eq_false (by omega)]
      have l0 : lstP [] = some (.list []) := rfl
      have ev := evx53 (T := T) (n := n + k + 4) (w := w) h.h9 hs6
      replace ev : run T (n + k + 5) 14 [.int (s : Nat)] w = _ := ev
      obtain ⟨o3, e⟩ := lf_loop (T := T) (n := n + k + 1) (w := w) h hs ha.ok (by omega) f (10 ^ k) hf g hg ih (pairsL s) (fun c hc => pairsL_ok hc) [] (by
        have : (pairsL s).length * 10 ^ k ≤ 10 * 10 ^ 3 := Nat.mul_le_mul pl k4
        simp only [List.length_nil]
        omega) none
      rw [flat, List.nil_append] at e
      unfold b_lists_from
      rw [seq_next (r1 := [some (.int (s : Nat)), some (dR r), none, none]) (w1 := w) (by
        simp only [e_sIf, e_dPrim, e_dCons, e_dVar, e_dC, e_dNil, List.getElem?_cons_succ, List.getElem?_cons_zero, p_len, lenP_dR, Option.map_some, p_sub, subP_int, p_eq, e1, truth_bool, e_sPass])]
      rw [seq_next (r1 := [some (.int (s : Nat)), some (dR r), some (.list []), none]) (w1 := w) (by
        simp only [e_sAsg, e_dPrim, e_dNil, p_lst, l0, Option.map_some]
        rfl)]
      have hfo : sFor (iSeq (dCall 14 (dCons (dVar 0) dNil))) (.nm 3) lfB (run T (n + k + 5)) [some (.int (s : Nat)), some (dR r), some (.list []), none] w = forGo (run T (n + k + 5)) (.nm 3) lfB ((pairsL s).map pr) [some (.int (s : Nat)), some (dR r), some (.list []), none] w := for_of (by
        simp only [e_iSeq, e_dCall, e_dCons, e_dVar, e_dNil, List.getElem?_cons_zero, ev]
        rfl)
      exact (congrArg fin (seq_next (hfo.trans e))).trans rfl
    · rw [← flat]
      refine Nat.le_trans (flatLen fun e _ => hf e) ?_
      rw [Nat.pow_succ, Nat.mul_comm]
      refine Nat.mul_le_mul_left _ (Nat.le_trans (List.length_filter_le _ _) pl)
/-- every round list goes on from the table's first state -/
theorem lf_mem {s : Nat} (hs : 2 ≤ s ∧ s ≤ 6) : ∀ (k : Nat) (r pre : List (Int × Int)) (i : Nat) (t : Row), r.length = k → At s pre i t → OkR s (pre ++ r) → (pre ++ r).length + 1 = s → resL s (pre ++ r) = cyc s → pre ++ r ∈ lfT s k pre i
  | 0, r, pre, i, t, hl, _, _, _, _ => by
    rw [List.eq_nil_of_length_eq_zero hl, List.append_nil]
    exact List.mem_singleton.mpr rfl
  | k + 1, [], _, _, _, hl, _, _, _, _ => by cases hl
  | k + 1, e :: r, pre, i, t, hl, ha, ok, hs2, hr => by
    have e1 : pre ++ e :: r = (pre ++ [e]) ++ r := by simp
    have oe : Ok s e := ok e (List.mem_append_right _ (.head _))
    have n1 := nc_round hs ok hs2 hr (pre.length + 1) (by simp)
    have e2 : (pre ++ e :: r).take (pre.length + 1) = pre ++ [e] := by rw [e1, List.take_left' (by simp)]
    rw [e2] at n1
    obtain ⟨j, hj⟩ := (ha.ex hs oe).mp (by rw [n1]; simp)
    obtain ⟨_, u, hu⟩ := ha.next hs hj
    rw [e1] at ok hs2 hr ⊢
    have z := lf_mem hs k r (pre ++ [e]) j u (by simpa using hl) hu ok hs2 hr
    rw [lfT, ha.at_]
    exact List.mem_flatMap.mpr ⟨(e, j), hj, z⟩
theorem alll_ok (h : HLf T) (h0 : T i_in_range = some f_in_range) (h1 : T i_check_size = some f_check_size) (h2 : T i_all_lists = some f_all_lists) {s : Nat} (hs : 2 ≤ s ∧ s ≤ 5) : run T (n + s + 5) i_all_lists [.int (s : Nat)] w = some (.val (.list ((lfT s (s - 1) [] 0).map dR)), w) := by
  obtain ⟨t, ht⟩ := at_nil s (by omega)
  have e := (lf_ok (T := T) (n := n) (w := w) h hs (s - 1) [] 0 t ht (by simp; omega)).1
  rw [show n + (s - 1) + 5 = n + s + 4 by omega] at e
  rw [show n + s + 5 = (n + s + 4) + 1 by omega, run_at h2 rfl (by decide)]
  show fin (b_all_lists (run T (n + s + 4)) [some (.int (s : Nat))] w) = _
  have cs := csize_ok (T := T) (n := n + s + 2) (w := w) h0 h1 (s : Int) (by omega)
  replace cs : run T (n + s + 4) 2 [.int (s : Nat)] w = _ := cs
  have t0 : tupP [] = some (dR []) := rfl
  unfold b_all_lists
  simp only [e_sSeq, e_sExpr, e_sRet, e_dCall, e_dPrim, e_dCons, e_dVar, e_dNil, List.getElem?_cons_zero, cs, p_tup, t0, Option.map_some, e]
  rfl
end
end Rx

set_option Elab.async false
set_option linter.all false
set_option maxRecDepth 100000
set_option autoImplicit false
namespace Rx
open PySem
/-! ### lists of rows as data -/
theorem alk_rws : ∀ a b : List (Int × Int), alkAll (a.map pr) (b.map pr) = true
  | [], _ => rfl
  | _ :: _, [] => rfl
  | x :: a, y :: b => by
    show (alk (pr x) (pr y) && alkAll (a.map pr) (b.map pr)) = true
    rw [alk_rws a b]; rfl
theorem shal_row (k : Nat) (r : List (Int × Int)) : shal (k + 2) (dR r) = true := by
  show ((r.map pr).all (shal (k + 1))) = true
  simp only [List.all_eq_true, List.mem_map]
  rintro d ⟨p, _, rfl⟩
  exact shal_pr k p
theorem shal_rws (F : List (List (Int × Int))) : shal 8 (.list (F.map dR)) = true := by
  show ((F.map dR).all (shal 7)) = true
  simp only [List.all_eq_true, List.mem_map]
  rintro d ⟨r, _, rfl⟩
  exact shal_row 5 r
theorem srtOk_rws {F : List (List (Int × Int))} (h0 : ∀ r ∈ F, r ≠ []) (hl : F.length ≤ 100000) : srtOk (F.map dR) = true := by
  unfold srtOk
  simp only [Bool.and_eq_true, Bool.or_eq_true, decide_eq_true_eq, List.all_eq_true, List.mem_map]
  refine ⟨⟨⟨?_, .inl ?_⟩, ?_⟩, by rw [List.length_map]; unfold zL; omega⟩
  · rintro _ ⟨p, _, rfl⟩ _ ⟨q, _, rfl⟩; exact alk_rws p q
  · rintro _ ⟨p, hp, rfl⟩
    cases p with
    | nil => exact absurd rfl (h0 _ hp)
    | cons _ _ => rfl
  · rintro _ ⟨p, _, rfl⟩; exact shal_row 6 p
theorem prsOf_rws : ∀ r : List (Int × Int), prsOf (r.map pr) = some r
  | [] => rfl
  | p :: r => by
    show (prsOf (r.map pr)).map ((p.1, p.2) :: ·) = _
    rw [prsOf_rws r]; rfl
theorem rwsOf_rws : ∀ F : List (List (Int × Int)), rwsOf (F.map dR) = some F
  | [] => rfl
  | r :: F => by
    show ((prsOf (r.map pr)).bind fun ps => (rwsOf (F.map dR)).map (ps :: ·)) = _
    rw [prsOf_rws r, rwsOf_rws F]; rfl
/-- ascending, no two hash alike, none empty -/
def ssB (F : List (List (Int × Int))) : Bool := decide (F.length ≤ 300) && (ndI (F.map rowH) && (strB (F.map dR) && F.all fun r => !r.isEmpty))
theorem ssl_rws {F : List (List (Int × Int))} (h : ssB F = true) : sslP (.list (F.map dR)) = some (.list (F.map dR)) := by
  unfold ssB at h
  simp only [Bool.and_eq_true, decide_eq_true_eq, List.all_eq_true] at h
  obtain ⟨h1, h2, h3, h4⟩ := h
  have ok : srtOk (F.map dR) = true := srtOk_rws (fun r hr e => by have := h4 r hr; rw [e] at this; cases this) (by omega)
  show ((rwsOf (F.map dR)).bind fun rs => if (decide (rs.length ≤ 300) && (ndI (rs.map rowH) && (strB (F.map dR) && srtOk (F.map dR)))) = true then some (PyData.list (F.map dR)) else none) = _
  rw [rwsOf_rws]
  show (if (decide (F.length ≤ 300) && (ndI (F.map rowH) && (strB (F.map dR) && srtOk (F.map dR)))) = true then some (PyData.list (F.map dR)) else none) = _
  rw [decide_eq_true h1, h2, h3, ok]
  rfl
theorem inP_rws {r : List (Int × Int)} {F : List (List (Int × Int))} (h : r ∈ F) : inP (dR r) (.list (F.map dR)) = some true := by
  have e : eqOk (dR r) (.list (F.map dR)) = true := by unfold eqOk; rw [shal_row 6]; rfl
  show (if eqOk (dR r) (.list (F.map dR)) = true then some ((F.map dR).any fun z => eqd z (dR r)) else none) = _
  rw [if_pos e]
  congr 1
  exact List.any_eq_true.mpr ⟨dR r, List.mem_map_of_mem h, eqd_self 8 _ (shal_row 6 r)⟩
theorem neP_rws (F : List (List (Int × Int))) : neP (.list (F.map dR)) (.list (F.map dR)) = some (.bool false) := neP_self (shal_rws F)
/-- one of a list of rows -/
theorem pick_row {F : List (List (Int × Int))} (h : 0 < F.length) (x : Int) : ∃ r ∈ F, ixP (.list (F.map dR)) (.int (x % (F.length : Int))) = some (dR r) := by
  have h1 := Int.emod_nonneg x (show (F.length : Int) ≠ 0 by omega)
  have h2 := Int.emod_lt_of_pos x (show (0 : Int) < (F.length : Int) by omega)
  obtain ⟨k, hk⟩ : ∃ k : Nat, x % (F.length : Int) = (k : Nat) := ⟨(x % (F.length : Int)).toNat, by omega⟩
  have hk2 : k < F.length := by omega
  rw [hk]
  refine ⟨F[k], List.getElem_mem hk2, ?_⟩
  show ((ixAt (F.map dR).length ((k : Nat) : Int)).bind fun j => (F.map dR)[j]?) = _
  unfold ixAt
  rw [if_pos (by omega), if_pos (by rw [List.length_map]; omega)]
  show (F.map dR)[((k : Nat) : Int).toNat]? = _
  rw [Int.toNat_natCast, List.getElem?_map, List.getElem?_eq_getElem hk2]
  rfl
/-- all round lists -/
def allR (s : Nat) : List (List (Int × Int)) := lfT s (s - 1) [] 0
def chkA (s m : Nat) : Bool := decide ((allR s).length = m) && (ssB (allR s) && (allR s).all fun r => decide (resL s r = cyc s))
theorem ca2 : chkA 2 1 = true := by decide +kernel
theorem ca3 : chkA 3 3 = true := by decide +kernel
theorem ca4 : chkA 4 16 = true := by decide +kernel
theorem ca5 : chkA 5 125 = true := by decide +kernel
end Rx

set_option Elab.async false
set_option maxRecDepth 100000
set_option linter.all false
namespace Rx
namespace Rx10
open PySem
def mny : Nat → Int
  | 2 => 1
  | 3 => 3
  | 4 => 16
  | 5 => 125
  | _ => 1296
def gA2 : List (List (Int × Int)) := [[(0, 1)]]
def gA3 : List (List (Int × Int)) := [[(0, 1), (0, 2)], [(0, 2), (1, 2)], [(1, 2), (0, 1)]]
def gA4 : List (List (Int × Int)) := [[(0, 1), (0, 2), (0, 3)], [(0, 1), (0, 3), (2, 3)], [(0, 1), (2, 3), (0, 2)], [(0, 2), (0, 3), (1, 2)], [(0, 2), (1, 2), (0, 3)], [(0, 3), (1, 2), (1, 3)], [(0, 3), (1, 3), (2, 3)], [(0, 3), (2, 3), (1, 2)], [(1, 2), (0, 1), (0, 3)], [(1, 2), (0, 3), (1, 3)], [(1, 2), (1, 3), (0, 1)], [(1, 3), (0, 1), (2, 3)], [(1, 3), (2, 3), (0, 1)], [(2, 3), (0, 1), (0, 2)], [(2, 3), (0, 2), (1, 2)], [(2, 3), (1, 2), (0, 1)]]
def gA : Nat → List (List (Int × Int))
  | 2 => gA2
  | 3 => gA3
  | _ => gA4
/-- what is computed without the script -/
structure Cl (T : Tb) : Prop where
  cnt : ∀ s : Nat, 2 ≤ s ∧ s ≤ 6 → run T 11 64 [.int (s : Nat)] [] = some (.val (.int (mny s)), [])
  c6 : run T 11 17 [.int 6, dR [(0, 1)]] [] = some (.val (.int 125), [])
  n6 : run T 11 18 [.int 6, dR []] [] = some (.val (.list ((pairsL 6).map pr)), [])
  la : ∀ s : Nat, 2 ≤ s ∧ s ≤ 4 → run T 11 62 [.int (s : Nat), dR []] [] = some (.val (.list ((gA s).map dR)), [])
abbrev T0 : Tb := tbOf defs
theorem cn2 : run T0 11 64 [.int 2] [] = some (.val (.int 1), []) := by kernel_rfl
theorem cn3 : run T0 11 64 [.int 3] [] = some (.val (.int 3), []) := by kernel_rfl
theorem cn4 : run T0 11 64 [.int 4] [] = some (.val (.int 16), []) := by kernel_rfl
theorem cn5 : run T0 11 64 [.int 5] [] = some (.val (.int 125), []) := by kernel_rfl
theorem cn6 : run T0 11 64 [.int 6] [] = some (.val (.int 1296), []) := by kernel_rfl
theorem cm6 : run T0 11 17 [.int 6, dR [(0, 1)]] [] = some (.val (.int 125), []) := by kernel_rfl
theorem nx6 : run T0 11 18 [.int 6, dR []] [] = some (.val (.list ((pairsL 6).map pr)), []) := by kernel_rfl
theorem la2 : run T0 11 62 [.int 2, dR []] [] = some (.val (.list (gA2.map dR)), []) := by kernel_rfl
theorem la3 : run T0 11 62 [.int 3, dR []] [] = some (.val (.list (gA3.map dR)), []) := by kernel_rfl
theorem la4 : run T0 11 62 [.int 4, dR []] [] = some (.val (.list (gA4.map dR)), []) := by kernel_rfl
theorem cl : Cl T0 where
  cnt := fun s hs => by
    have : s = 2 ∨ s = 3 ∨ s = 4 ∨ s = 5 ∨ s = 6 := by omega
    rcases this with rfl | rfl | rfl | rfl | rfl
    · exact cn2
    · exact cn3
    · exact cn4
    · exact cn5
    · exact cn6
  c6 := cm6
  n6 := nx6
  la := fun s hs => by
    have : s = 2 ∨ s = 3 ∨ s = 4 := by omega
    rcases this with rfl | rfl | rfl
    · exact la2
    · exact la3
    · exact la4
theorem so2 : sortedP (.list (gA2.map dR)) = some (.list ((allR 2).map dR)) := by kernel_rfl
theorem so3 : sortedP (.list (gA3.map dR)) = some (.list ((allR 3).map dR)) := by kernel_rfl
theorem so4 : sortedP (.list (gA4.map dR)) = some (.list ((allR 4).map dR)) := by kernel_rfl
theorem soA : ∀ s : Nat, 2 ≤ s ∧ s ≤ 4 → sortedP (.list ((gA s).map dR)) = some (.list ((allR s).map dR)) := fun s hs => by
  have : s = 2 ∨ s = 3 ∨ s = 4 := by omega
  rcases this with rfl | rfl | rfl
  · exact so2
  · exact so3
  · exact so4
theorem chA : ∀ s : Nat, 2 ≤ s ∧ s ≤ 5 → ((allR s).length : Int) = mny s ∧ ssB (allR s) = true ∧ ∀ r ∈ allR s, resL s r = cyc s := fun s hs => by
  have key : ∀ s m : Nat, chkA s m = true → ((allR s).length : Int) = m ∧ ssB (allR s) = true ∧ ∀ r ∈ allR s, resL s r = cyc s := fun s m h => by
    unfold chkA at h
    simp only [Bool.and_eq_true, decide_eq_true_eq, List.all_eq_true] at h
    exact ⟨by omega, h.2.1, h.2.2⟩
  have : s = 2 ∨ s = 3 ∨ s = 4 ∨ s = 5 := by omega
  rcases this with rfl | rfl | rfl | rfl
  · exact key 2 1 ca2
  · exact key 3 3 ca3
  · exact key 4 16 ca4
  · exact key 5 125 ca5
def mB : Sx := (sFor (iRng (dCons (dPrim .sub (dCons (dVar 2) (dCons (dC (.int 2)) dNil))) dNil)) (.nm 4)
    (sAsg 3 (dPrim .mul (dCons (dVar 3) (dCons (dVar 2) dNil)))))
theorem mny_ok (c : Cf) (w : Om) (o0 o1 : Option D) : ∀ s : Nat, 2 ≤ s ∧ s ≤ 6 → ∃ o4, mB c [o0, o1, some (.int (s : Nat)), some (.int 1), none, none] w = some (.next [o0, o1, some (.int (s : Nat)), some (.int (mny s)), o4, none], w) := fun s hs => by
  have : s = 2 ∨ s = 3 ∨ s = 4 ∨ s = 5 ∨ s = 6 := by omega
  rcases this with rfl | rfl | rfl | rfl | rfl <;> exact ⟨_, rfl⟩
theorem ifn {t : Ex} {A : Sx} {c : Cf} {r : Env} {w w1 : Om} (h : t c r w = some (.val (.bool false), w1)) : sIf t A sPass c r w = some (.next r, w1) := by
  rw [e_sIf, h]; rfl
section
variable {T : Tb}
theorem law_ok (h : Has T) (cl : Cl T) (ns : List Int) : run T 12 0 [dScript ns] [] = some (.val (.bool true), []) := by
  have hlf : HLf T := ⟨h.moved, h.result_of, h.rest_groups, h.completions_of, h.every_exchange, h.lists_from⟩
  obtain ⟨ds, hd, ed⟩ := lrow_ok (T := T) (n := 9) (w := []) h._law_cell h._law_row ns 4 (by decide)
  have at_ : ∀ k : Nat, k < 60 → ∃ x : Int, 0 ≤ x ∧ ixP (.list (ds.map .int)) (.int (k : Nat)) = some (.int x) := fun k hk => by
    obtain ⟨x, hx, e⟩ := hd.at_ k hk
    exact ⟨x, hx.1, e⟩
  generalize hds : PyData.list (ds.map .int) = dd at *
  obtain ⟨x0, h0, e0⟩ := at_ 0 (by decide)
  obtain ⟨x1, h1, e1⟩ := at_ 1 (by decide)
  replace e0 : ixP dd (.int 0) = some (.int x0) := e0
  replace e1 : ixP dd (.int 1) = some (.int x1) := e1
  replace ed : run T 11 29 [dScript ns, .int 4] [] = _ := ed
  have m0 : modP (.int x0) (.int 8) = some (.int (x0 % 8)) := mod_pos (by decide)
  have l8 : lstP [.int 2, .int 3, .int 4, .int 5, .int 3, .int 4, .int 5, .int 6] = some (.list [.int 2, .int 3, .int 4, .int 5, .int 3, .int 4, .int 5, .int 6]) := rfl
  obtain ⟨s, hs, i8⟩ : ∃ s : Nat, (2 ≤ s ∧ s ≤ 6) ∧ ixP (.list [.int 2, .int 3, .int 4, .int 5, .int 3, .int 4, .int 5, .int 6]) (.int (x0 % 8)) = some (.int (s : Nat)) := by
    have h1 := Int.emod_nonneg x0 (show (8 : Int) ≠ 0 by decide)
    have h2 := Int.emod_lt_of_pos x0 (show (0 : Int) < 8 by decide)
    have : x0 % 8 = 0 ∨ x0 % 8 = 1 ∨ x0 % 8 = 2 ∨ x0 % 8 = 3 ∨ x0 % 8 = 4 ∨ x0 % 8 = 5 ∨ x0 % 8 = 6 ∨ x0 % 8 = 7 := by omega
    rcases this with e | e | e | e | e | e | e | e <;> rw [e]
    · exact ⟨2, by omega, rfl⟩
    · exact ⟨3, by omega, rfl⟩
    · exact ⟨4, by omega, rfl⟩
    · exact ⟨5, by omega, rfl⟩
    · exact ⟨3, by omega, rfl⟩
    · exact ⟨4, by omega, rfl⟩
    · exact ⟨5, by omega, rfl⟩
    · exact ⟨6, by omega, rfl⟩
  obtain ⟨o4, mo⟩ := mny_ok (run T 11) [] (some (dScript ns)) (some dd) s hs
  unfold mB at mo
  have cn := cl.cnt s hs
  have nm : neP (.int (mny s)) (.int (mny s)) = some (.bool false) := by rw [neP_int, decide_eq_true rfl]; rfl
  have fb : f_law.body = b_law := rfl
  have fe : ([dScript ns].map some ++ List.replicate (f_law.slots - f_law.params) none : Env) = [some (dScript ns), none, none, none, none, none] := rfl
  rw [run_at h.law rfl (by decide), fb, fe]
  unfold b_law
  rw [seq_next (r1 := [some (dScript ns), some dd, none, none, none, none]) (w1 := []) (by
    simp only [e_sAsg, e_dCall, e_dCons, e_dVar, e_dC, e_dNil, List.getElem?_cons_succ, List.getElem?_cons_zero, ed]
    rfl)]
  rw [seq_next (r1 := [some (dScript ns), some dd, some (.int (s : Nat)), none, none, none]) (w1 := []) (by
    simp only [e_sAsg, e_dPrim, e_dCons, e_dVar, e_dC, e_dNil, List.getElem?_cons_succ, List.getElem?_cons_zero, p_lst, l8, p_ix, e0, p_mod, m0, i8, Option.map_some]
    rfl)]
  rw [seq_next (r1 := [some (dScript ns), some dd, some (.int (s : Nat)), some (.int 1), none, none]) (w1 := []) rfl]
  rw [seq_next (r1 := [some (dScript ns), some dd, some (.int (s : Nat)), some (.int (mny s)), o4, none]) (w1 := []) mo]
  rw [seq_next (w1 := []) (ifn (w1 := []) (by
    simp only [e_dPrim, e_dCons, e_dVar, e_dC, e_dNil, e_dCall, List.getElem?_cons_succ, List.getElem?_cons_zero, cn, p_ne, nm, Option.map_some]))]
  by_cases h6 : s = 6
  · subst h6
    have t01 : tupP [.int 0, .int 1] = some (pr (0, 1)) := rfl
    have t01b : tupP [pr (0, 1)] = some (dR [(0, 1)]) := rfl
    have t0 : tupP [] = some (dR []) := rfl
    have pk := pairs_ok (T := T) (n := 10) (w := []) h._law_pairs 6 (by omega)
    replace pk : run T 11 30 [.int 6] [] = _ := pk
    have q6 : eqP (.int ((6 : Nat) : Int)) (.int 6) = some (.bool true) := rfl
    have q125 : eqP (.int 125) (.int 125) = some (.bool true) := rfl
    have qp : eqP (.list ((pairsL 6).map pr)) (.list ((pairsL 6).map pr)) = some (.bool true) := eqP_self (by decide +kernel)
    have c6 := cl.c6
    have n6 := cl.n6
    generalize PyData.list ((pairsL 6).map pr) = PS at *
    generalize dR [(0, 1)] = R1 at *
    generalize dR [] = R0 at *
    have : (sIf (dPrim .eq (dCons (dVar 2) (dCons (dC (.int 6)) dNil)))
      (sRet (dAnd (dPrim .eq (dCons (dCall 17 (dCons (dC (.int 6)) (dCons (dPrim .tup (dCons (dPrim .tup (dCons (dC (.int 0)) (dCons (dC (.int 1)) dNil))) dNil)) dNil))) (dCons (dC (.int 125)) dNil))) (dPrim .eq (dCons (dCall 18 (dCons (dC (.int 6)) (dCons (dPrim .tup dNil) dNil))) (dCons (dCall 30 (dCons (dC (.int 6)) dNil)) dNil))))) sPass) (run T 11) [some (dScript ns), some dd, some (.int ((6 : Nat) : Int)), some (.int (mny 6)), o4, none] [] = some (.ret (.bool true), []) := by
      simp only [e_sIf, e_sRet, e_dAnd, e_dPrim, e_dCons, e_dVar, e_dC, e_dNil, e_dCall, List.getElem?_cons_succ, List.getElem?_cons_zero, Option.map_some, p_eq, q6, truth_bool, p_tup, t01, t01b, t0, c6, q125, n6, pk, qp]
    unfold sSeq
    rw [this]
    rfl
  · have hs5 : 2 ≤ s ∧ s ≤ 5 := by omega
    obtain ⟨c1, c2, c3⟩ := chA s hs5
    have al := alll_ok (T := T) (n := 6 - s) (w := []) hlf h.in_range h.check_size h.all_lists hs5
    rw [show 6 - s + s + 5 = 11 by omega] at al
    replace al : run T 11 66 [.int (s : Nat)] [] = some (.val (.list ((allR s).map dR)), []) := al
    obtain ⟨r, ok, hl, hst, er⟩ := round_ok (T := T) (n := 8) (w := []) h._law_cell h._law_row h._law_to h._law_round ns 3 (by decide) (s : Int) (by omega)
    replace er : run T 11 32 [dScript ns, .int 3, .int (s : Nat)] [] = some (.val (dR r), []) := er
    have hr : resL s r = cyc s := by
      have st : resL s (star s) = cyc s := by
        have : s = 2 ∨ s = 3 ∨ s = 4 ∨ s = 5 := by omega
        rcases this with rfl | rfl | rfl | rfl <;> decide +kernel
      rw [← st]
      unfold resL
      exact List.map_congr_left fun a _ => hst _
    have hm : r ∈ allR s := by
      obtain ⟨t, ht⟩ := at_nil s hs
      exact lf_mem hs (s - 1) r [] 0 t (by omega) ht ok (by show r.length + 1 = s; omega) hr
    have inF := inP_rws hm
    have ss := ssl_rws c2
    have nF := neP_rws (allR s)
    have lF : lenP (.list ((allR s).map dR)) = some (.int (mny s)) := by
      show some (PyData.int (((allR s).map dR).length : Nat)) = _
      rw [List.length_map, c1]
    have hpos : 0 < mny s := by
      have : s = 2 ∨ s = 3 ∨ s = 4 ∨ s = 5 := by omega
      rcases this with rfl | rfl | rfl | rfl <;> decide
    obtain ⟨q, hq, iq⟩ := pick_row (F := allR s) (by omega) x1
    rw [c1] at iq
    have m1 : modP (.int x1) (.int (mny s)) = some (.int (x1 % mny s)) := mod_pos hpos
    have lr := lisr_ok (T := T) (n := 8) (w := []) h._law_to h._law_result h._law_is_round (s : Int) (by omega) q
    rw [decide_eq_true (c3 q hq)] at lr
    replace lr : run T 11 38 [.int (s : Nat), dR q] [] = _ := lr
    have q6 : eqP (.int (s : Nat)) (.int 6) = some (.bool false) := by rw [eqP_int, decide_eq_false (by omega)]
    have t0 : tupP [] = some (dR []) := rfl
    have sv : ∀ e : Env, e[5]? = some (some (.list ((allR s).map dR))) → dSsl (dVar 5) (run T 11) e [] = some (.val (.list ((allR s).map dR)), []) := fun e g => by
      unfold dSsl
      simp only [e_dVar, g, ss, Option.map_some]
    have so : ∀ hs4 : 2 ≤ s ∧ s ≤ 4, run T 11 62 [.int (s : Nat), dR []] [] = some (.val (.list ((gA s).map dR)), []) ∧ sortedP (.list ((gA s).map dR)) = some (.list ((allR s).map dR)) := fun hs4 => ⟨cl.la s hs4, soA s hs4⟩
    generalize PyData.list ((allR s).map dR) = FF at *
    rw [seq_next (w1 := []) (ifn (w1 := []) (by
      simp only [e_dPrim, e_dCons, e_dVar, e_dC, e_dNil, List.getElem?_cons_succ, List.getElem?_cons_zero, p_eq, q6, Option.map_some]))]
    rw [seq_next (r1 := [some (dScript ns), some dd, some (.int (s : Nat)), some (.int (mny s)), o4, some FF]) (w1 := []) (by
      simp only [e_sAsg, e_dCall, e_dCons, e_dVar, e_dC, e_dNil, List.getElem?_cons_succ, List.getElem?_cons_zero, al]
      rfl)]
    have p_notin : ∀ x y : D, prim .notin [x, y] = (inP x y).map fun b => .bool (!b) := fun _ _ => rfl
    rw [seq_next (w1 := []) (ifn (w1 := []) (by
      have sv5 := sv [some (dScript ns), some dd, some (.int (s : Nat)), some (.int (mny s)), o4, some FF] rfl
      simp only [e_dOr, e_dPrim, e_dCons, e_dVar, e_dC, e_dNil, e_dCall, sv5, List.getElem?_cons_succ, List.getElem?_cons_zero, p_len, lF, p_ne, nm, nF, Option.map_some, truth_bool, er, p_notin, inF, Bool.not_true]))]
    rw [seq_next (w1 := []) (ifn (w1 := []) (by
      by_cases h5 : s = 5
      · have lt : decide ((s : Int) < 5) = false := decide_eq_false (by omega)
        simp only [e_dAnd, e_dPrim, e_dCons, e_dVar, e_dC, e_dNil, List.getElem?_cons_succ, List.getElem?_cons_zero, p_lt, lt, Option.map_some, truth_bool]
      · have lt : decide ((s : Int) < 5) = true := decide_eq_true (by omega)
        obtain ⟨a1, a2⟩ := so (by omega)
        simp only [e_dAnd, e_dPrim, e_dCons, e_dVar, e_dC, e_dNil, e_dCall, List.getElem?_cons_succ, List.getElem?_cons_zero, p_lt, lt, Option.map_some, truth_bool, p_tup, t0, a1, p_sorted, a2, p_ne, nF]))]
    simp only [e_sRet, e_dCall, e_dPrim, e_dCons, e_dVar, e_dC, e_dNil, List.getElem?_cons_succ, List.getElem?_cons_zero, p_ix, e1, p_mod, m1, iq, Option.map_some, lr]
    rfl
end
end Rx10
end Rx
theorem PySem.Challenge.cw_roundexchanges_k10_whole_all_lists_holds : PySem.Challenge.rw_roundexchanges_k10_whole_all_lists.Holds :=
  Rx.Rx10.holds 12 ⟨rfl, by decide, by decide⟩ fun ns _ => ⟨[], Rx.Rx10.law_ok Rx.Rx10.has Rx.Rx10.cl ns⟩
