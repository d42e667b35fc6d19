import PyProof.Rows.All
import Wide.All
import OpenK.AllK
import Wide.FinOn
import PySem.PyData
import PySem.Builtin.Tuple.Common
import PyProof.Dict
import HandS.ForMost
import HandS.ForExc
import HandS.CallSlots
import HandS.TryMany
import HandS.ExcIs
import HandS.IsInst
import HandS.Conv
import HandS.TupAny
import HandS.TupMul
import HandS.Strs
import HandS.FStr
import HandS.Deep
import HandS.Flow
import HandS.Codes
import HandS.Style
import HandS.RaiseMore
import HandS.Defaults
import HandS.HeadHook2
import HandS.HeadEnd
import HandS.Head2
import KE.SortData
import KE.DataEq
import HandS.SetFor
import HandS.TupSets
import KE.DataMinMax
import PyProof.Claim2Refuses
import HandS.Text
import KE.GoesMore
import KE.GoesEnum
import KE.KRevSl
import KE.KeyNested
import HandS.More
import KE.KDictKeyed
import KE.KDictDisplayH
import PySem.Challenge.RW_roundexchanges_k08_whole_roads
import PyProof.TableCode
set_option linter.all false
/-! RxP0: a small language of values: what the program's pieces mean over plain data. -/
namespace Rx
open PySem

abbrev D := PyData
/-- an exception: its class, its line -/
structure Xn where
  cls : Nat
  line : D
inductive R where
  | val (d : D)
  | exc (x : Xn)
inductive RL where
  | vals (ds : List D)
  | exc (x : Xn)
abbrev Fs := List (Str × D)
abbrev Om := List Fs
abbrev Env := List (Option D)
abbrev Cf := Nat → List D → Om → Option (R × Om)
/-- an expression, a list of them, a source of items -/
abbrev Ex := Cf → Env → Om → Option (R × Om)
abbrev Exs := Cf → Env → Om → Option (RL × Om)
inductive Out where
  | next (r : Env)
  | ret (d : D)
  | exc (x : Xn) (r : Env)
abbrev Sx := Cf → Env → Om → Option (Out × Om)

/-! ### data -/
def dObj (i : Nat) : D := .dict [(.int i, .none)]
def dScript (ns : List Int) : D := .dict [(.none, .list (ns.map .int))]
/-- a tuple of ints that is known to be a plain one: its methods may be asked -/
def dX (ns : List Int) : D := .dict [(.bool true, .tuple (ns.map .int))]
def norm : D → D
  | .dict [(.bool true, .tuple xs)] => .tuple xs
  | d => d
def plain : D → Bool
  | .dict _ => false
  | _ => true
def isLst : D → Bool
  | .list _ => true
  | _ => false
/-- the size line of the library -/
def zL : Nat := 1000000

mutual
def eqd : D → D → Bool
  | .none, .none => true
  | .bool a, .bool b => a == b
  | .bool a, .int j => (if a then 1 else 0) == j
  | .int i, .bool b => i == (if b then 1 else 0)
  | .int i, .int j => i == j
  | .str x, .str y => x == y
  | .list xs, .list ys => eqdAll xs ys
  | .tuple xs, .tuple ys => eqdAll xs ys
  | _, _ => false
def eqdAll : List D → List D → Bool
  | [], [] => true
  | x :: xs, y :: ys => eqd x y && eqdAll xs ys
  | _, _ => false
end
/-- shallow: nested at most n deep, no dict -/
def shal : Nat → D → Bool
  | _, .none => true
  | _, .bool _ => true
  | _, .int _ => true
  | _, .str _ => true
  | 0, _ => false
  | n + 1, .list ds => ds.all (shal n)
  | n + 1, .tuple ds => ds.all (shal n)
  | _, .dict _ => false

/-- the place of an index -/
def ixAt (n : Nat) (i : Int) : Option Nat :=
  if 0 ≤ i then (if i < n then some i.toNat else none) else if -(n : Int) ≤ i then some (i + n).toNat else none
def clip (n : Nat) (dflt : Nat) : Option Int → Nat
  | none => dflt
  | some i => if i < 0 then (i + (n : Int)).toNat else min i.toNat n
def cut {α : Type} (xs : List α) (lo hi : Option Int) : List α :=
  (xs.drop (clip xs.length 0 lo)).take (clip xs.length xs.length hi - clip xs.length 0 lo)


/-! ### the order of sorted -/
mutual
def kt : D → List (Int ⊕ List Nat)
  | .none => []
  | .bool b => [.inl (if b = true then 1 else 0)]
  | .int n => [.inl n]
  | .str x => [.inr x.cps.toList]
  | .list xs => ktAll xs
  | .tuple xs => ktAll xs
  | .dict _ => []
def ktAll : List D → List (Int ⊕ List Nat)
  | [] => [.inl 0]
  | x :: xs => .inl 1 :: (kt x ++ ktAll xs)
end
def ltI : Int ⊕ List Nat → Int ⊕ List Nat → Bool
  | .inl a, .inl b => decide (a < b)
  | .inl _, .inr _ => true
  | .inr _, .inl _ => false
  | .inr a, .inr b => decide (a < b)
def ltK : List (Int ⊕ List Nat) → List (Int ⊕ List Nat) → Bool
  | [], [] => false
  | [], _ :: _ => true
  | _ :: _, [] => false
  | x :: r, y :: t => ltI x y || (!ltI y x && ltK r t)
def ltd (x y : D) : Bool := ltK (kt x) (kt y)
def led (x y : D) : Bool := !ltd y x
mutual
def alk : D → D → Bool
  | .none, .none => true
  | .bool _, .bool _ => true
  | .int _, .int _ => true
  | .str _, .str _ => true
  | .list xs, .list ys => alkAll xs ys
  | .tuple xs, .tuple ys => alkAll xs ys
  | _, _ => false
def alkAll : List D → List D → Bool
  | x :: xs, y :: ys => alk x y && alkAll xs ys
  | [], _ => true
  | _ :: _, [] => true
end
def tup1 : D → Bool
  | .tuple (_ :: _) => true
  | _ => false
def noTN : D → Bool
  | .none => false
  | .tuple _ => false
  | _ => true
def srtOk (ds : List D) : Bool := ds.all (fun a => ds.all (alk a)) && (ds.all tup1 || ds.all noTN) && ds.all (shal 8) && decide (ds.length ≤ zL)
def ins {α : Type} (le : α → α → Bool) (x : α) : List α → List α
  | [] => [x]
  | y :: ys => if le x y then x :: y :: ys else y :: ins le x ys
def isort {α : Type} (le : α → α → Bool) : List α → List α
  | [] => []
  | x :: xs => ins le x (isort le xs)
def dedup (ds : List D) : List D := ds.foldl (fun acc d => if acc.any (eqd d) then acc else acc ++ [d]) []

/-! ### what is done at once: all arguments are values -/
inductive Pr where
  | add | sub | mul | fdiv | mod | pow | neg
  | eq | ne | lt | le | gt | ge | isin | notin | isN | notN
  | ix | sl0 | slL | slH | slB | rev
  | len | tuple | list | sorted | sortedT | sum | max1 | max2 | min1 | min2 | str | int
  | isInt | isBool | isTuple | isStr
  | tup | lst | tuplex | index | count | join | split | rng1 | rng2 | sset

def items : D → Option (List D)
  | .list ds => some ds
  | .tuple ds => some ds
  | _ => none
def small (i : Int) : Bool := decide (-(2 ^ 64) < i) && decide (i < 2 ^ 64)
def truth : D → Option Bool
  | .none => some false
  | .bool b => some b
  | .int i => some (i != 0)
  | .str x => if x.length ≤ zL then some ((x.length : Int) != 0) else none
  | .list ds => some (!ds.isEmpty)
  | .tuple ds => some (!ds.isEmpty)
  | .dict _ => none
def rangeD (lo hi : Int) : List D := (List.range (hi - lo).toNat).map fun i => .int (lo + (i : Nat))
def inR (i : Int) : Bool := decide (-(2 ^ 62) ≤ i) && decide (i < 2 ^ 62)
def eqOk (a b : D) : Bool := plain a && plain b && (shal 8 a || shal 8 b)
def addP : D → D → Option D
  | .int i, .int j => some (.int (i + j))
  | .str x, .str y => if x.length + y.length ≤ zL then some (.str (x ++ y)) else none
  | .tuple xs, .tuple ys => if xs.length + ys.length ≤ zL then some (.tuple (xs ++ ys)) else none
  | .list xs, .list ys => if xs.length + ys.length ≤ zL then some (.list (xs ++ ys)) else none
  | _, _ => none
def mulP : D → D → Option D
  | .int i, .int j => if small i || small j then some (.int (i * j)) else none
  | .list xs, .int k => if 0 ≤ k ∧ k ≤ 1000 ∧ xs.length ≤ 1000 then some (.list (List.replicate k.toNat xs).flatten) else none
  | .tuple xs, .int k => if 1 ≤ k ∧ k ≤ 1000 ∧ xs.length ≤ 1000 ∧ xs ≠ [] then some (.tuple (List.replicate k.toNat xs).flatten) else none
  | _, _ => none
def ixP : D → D → Option D
  | .list xs, .int i => (ixAt xs.length i).bind fun j => xs[j]?
  | .tuple xs, .int i => (ixAt xs.length i).bind fun j => xs[j]?
  | .str x, .int i => if x.length ≤ zL then (ixAt x.cps.toList.length i).bind fun j => (x.cps.toList[j]?).map fun c => .str ⟨#[c]⟩ else none
  | .dict [(.none, .list xs)], .int i => (ixAt xs.length i).bind fun j => xs[j]?
  | .dict [(.bool true, .tuple xs)], .int i => (ixAt xs.length i).bind fun j => xs[j]?
  | _, _ => none
def slP (d : D) (lo hi : Option Int) : Option D := match d with
  | .list xs => some (.list (cut xs lo hi))
  | .tuple xs => some (.tuple (cut xs lo hi))
  | .str x => if x.length ≤ zL then some (.str ⟨(cut x.cps.toList lo hi).toArray⟩) else none
  | _ => none
def lenP : D → Option D
  | .list xs => some (.int xs.length)
  | .tuple xs => some (.int xs.length)
  | .str x => if x.length ≤ zL then some (.int x.length) else none
  | .dict [(.none, .list xs)] => some (.int xs.length)
  | _ => none
def cmpP (f : Int → Int → Bool) : D → D → Option D
  | .int i, .int j => some (.bool (f i j))
  | _, _ => none
def inP (x y : D) : Option Bool := match y with
  | .list ys => if eqOk x y then some (ys.any fun z => eqd z x) else none
  | .tuple ys => if eqOk x y then some (ys.any fun z => eqd z x) else none
  | .str z => (match x with
    | .str y => (match y.cps.toList with
      | [c] => some (decide (c ∈ z.cps.toList))
      | _ => none)
    | _ => none)
  | _ => none
def sumI : List D → Option Int
  | [] => some 0
  | .int i :: r => (sumI r).map (i + ·)
  | _ => none
def intsOf : List D → Option (List Int)
  | [] => some []
  | .int i :: r => (intsOf r).map (i :: ·)
  | _ => none
theorem intsOf_some : ∀ {ds : List D} {ns : List Int}, intsOf ds = some ns → ds = ns.map .int
  | [], _, h => by cases h; rfl
  | .int i :: r, ns, h => by
    unfold intsOf at h
    rw [Option.map_eq_some_iff] at h
    obtain ⟨ms, h1, rfl⟩ := h
    rw [intsOf_some h1]; rfl
  | .none :: _, _, h => by cases h
  | .bool _ :: _, _, h => by cases h
  | .str _ :: _, _, h => by cases h
  | .list _ :: _, _, h => by cases h
  | .tuple _ :: _, _, h => by cases h
  | .dict _ :: _, _, h => by cases h
theorem intsOf_map : ∀ ns : List Int, intsOf (ns.map PyData.int) = some ns
  | [] => rfl
  | n :: ns => by rw [List.map_cons, intsOf, intsOf_map ns]; rfl
def strsOf : List D → Option (List Str)
  | [] => some []
  | .str x :: r => (strsOf r).map (x :: ·)
  | _ => none
def findIx (p : D → Bool) : List D → Option Nat
  | [] => none
  | x :: r => if p x then some 0 else (findIx p r).map (· + 1)
def joinS (sep : List Nat) : List (List Nat) → List Nat
  | [] => []
  | [x] => x
  | x :: r => x ++ sep ++ joinS sep r
/-- split at each sign c -/
def splitS (c : Nat) : List Nat → List (List Nat)
  | [] => [[]]
  | x :: r => if x = c then [] :: splitS c r else match splitS c r with
    | [] => [[x]]
    | p :: q => (x :: p) :: q
/-- the figures of an int of one or more digits -/
def strI (i : Int) : Str := Str.ofString (toString i)
def maxI : List Int → Option Int
  | [] => none
  | [x] => some x
  | x :: r => (maxI r).map fun m => if m > x then m else x
def sumLen (xs : List Str) : Nat := (xs.map (·.length)).sum

def subP : D → D → Option D
  | .int i, .int j => some (.int (i - j))
  | _, _ => none
def fdivP : D → D → Option D
  | .int i, .int j => if 0 < j ∧ j < 1073741824 then some (.int (i / j)) else none
  | _, _ => none
def modP : D → D → Option D
  | .int i, .int j => if 0 < j then some (.int (i % j)) else none
  | _, _ => none
def powP : D → D → Option D
  | .int i, .int j => if 0 ≤ j ∧ j ≤ 1000 ∧ small i = true then some (.int (i ^ j.toNat)) else none
  | _, _ => none
def negP : D → Option D
  | .int i => some (.int (-i))
  | _ => none
def eqP (a b : D) : Option D := if eqOk (norm a) (norm b) then some (.bool (eqd (norm a) (norm b))) else none
def neP (a b : D) : Option D := if eqOk (norm a) (norm b) then some (.bool (!eqd (norm a) (norm b))) else none
def isNone : D → Bool
  | .none => true
  | _ => false
def isInt : D → Bool
  | .int _ => true
  | .bool _ => true
  | _ => false
def isBool : D → Bool
  | .bool _ => true
  | _ => false
def isTup : D → Bool
  | .tuple _ => true
  | _ => false
def isStr : D → Bool
  | .str _ => true
  | _ => false
def tstP (f : D → Bool) (d : D) : Option D := if plain d then some (.bool (f d)) else none
def slL : D → D → Option D
  | d, .int i => slP d (some i) none
  | _, _ => none
def slH : D → D → Option D
  | d, .int i => slP d none (some i)
  | _, _ => none
def slB : D → D → D → Option D
  | d, .int i, .int j => slP d (some i) (some j)
  | _, _, _ => none
def revP : D → Option D
  | .tuple xs => some (.tuple xs.reverse)
  | .list xs => some (.list xs.reverse)
  | _ => none
def sortedP : D → Option D
  | .list ds => if srtOk ds then some (.list (isort led ds)) else none
  | _ => none
/-- the elements by a key, ascending, each key once -/
def insU {α : Type} (key : α → Int) (x : α) : List α → List α
  | [] => [x]
  | y :: ys => if key x < key y then x :: y :: ys else if key x = key y then y :: ys else y :: insU key x ys
def usort {α : Type} (key : α → Int) : List α → List α
  | [] => []
  | x :: xs => insU key x (usort key xs)
def prsOf : List D → Option (List (Int × Int))
  | [] => some []
  | .tuple [.int a, .int b] :: r => (prsOf r).map ((a, b) :: ·)
  | _ => none
def dPr (p : Int × Int) : D := .tuple [.int p.1, .int p.2]
def prKey (p : Int × Int) : Int := p.1 * 64 + p.2
def prOk (p : Int × Int) : Bool := decide (0 ≤ p.1 ∧ p.1 < 64 ∧ 0 ≤ p.2 ∧ p.2 < 64)
def sortedTP : D → Option D
  | .tuple ds => if srtOk ds then some (.list (isort led ds)) else none
  | _ => none
def ssetP : D → Option D
  | .list ds => match intsOf ds with
    | some ns => if ns.length < 64 then some (.list ((usort id ns).map .int)) else none
    | none => match prsOf ds with
      | some ps => if ps.length < 64 ∧ ps.all prOk = true then some (.list ((usort prKey ps).map dPr)) else none
      | none => none
  | _ => none
def sumP (d : D) : Option D := (items d).bind fun ds => (sumI ds).map .int
def max1P : D → Option D
  | .list ds => (intsOf ds).bind fun ns => (maxI ns).map .int
  | _ => none
def minF (x : D) (xs : List D) : D := xs.foldl (fun a y => if ltd y a then y else a) x
def min1P : D → Option D
  | .list (x :: xs) => if srtOk (x :: xs) then some (minF x xs) else none
  | _ => none
def max2P : D → D → Option D
  | .int i, .int j => some (.int (if j > i then j else i))
  | _, _ => none
def min2P : D → D → Option D
  | .int i, .int j => some (.int (if j < i then j else i))
  | _, _ => none
def strP : D → Option D
  | .int i => if small i then some (.str (strI i)) else none
  | .str x => some (.str x)
  | _ => none
def intP : D → Option D
  | .bool b => some (.int (if b then 1 else 0))
  | _ => none
def tupxP : D → Option D
  | .list ds => (intsOf ds).map dX
  | _ => none
def tupP (ds : List D) : Option D := if ds.all plain && decide (ds.length ≤ zL) then some (.tuple ds) else none
def lstP (ds : List D) : Option D := if ds.all plain && decide (ds.length ≤ zL) then some (.list ds) else none
/-- the one sign of a text -/
def sign? (x : Str) : Option Nat := match x.cps.toList with
  | [c] => some c
  | _ => none
def indexP : D → D → Option D
  | .dict [(.bool true, .tuple xs)], .int i => (intsOf xs).bind fun ns => (ns.findIdx? (· == i)).map fun j => .int (j : Nat)
  | .str x, .str y => (sign? y).bind fun c => (x.cps.toList.findIdx? (· == c)).map fun j => .int (j : Nat)
  | _, _ => none
def countP : D → D → Option D
  | .list xs, .int i => (intsOf xs).map fun ns => .int ((ns.filter (· == i)).length : Nat)
  | _, _ => none
def joinP : D → D → Option D
  | .str s, .list xs => (strsOf xs).bind fun ys => if sumLen ys + ys.length * s.length ≤ zL then some (.str (Str.join s ys)) else none
  | _, _ => none
def splitP : D → D → Option D
  | .str x, .str y => (sign? y).bind fun c => if x.length ≤ zL then some (.list ((splitS c x.cps.toList).map fun l => .str ⟨l.toArray⟩)) else none
  | _, _ => none
/-- the pieces of an f-string: texts and ints -/
def fpiece : D → Option Str
  | .str x => if x.length ≤ zL then some x else none
  | .int i => if small i then some (strI i) else none
  | _ => none
def rng1P : D → Option D
  | .int j => if inR j && decide (j ≤ zL) then some (.list (rangeD 0 j)) else none
  | _ => none
def rng2P : D → D → Option D
  | .int i, .int j => if inR i && inR j && decide (j - i ≤ zL) then some (.list (rangeD i j)) else none
  | _, _ => none
def p1 (f : D → Option D) : List D → Option D
  | [a] => f a
  | _ => none
def p2 (f : D → D → Option D) : List D → Option D
  | [a, b] => f a b
  | _ => none
def p3 (f : D → D → D → Option D) : List D → Option D
  | [a, b, c] => f a b c
  | _ => none
def prim : Pr → List D → Option D
  | .add => p2 addP
  | .sub => p2 subP
  | .mul => p2 mulP
  | .fdiv => p2 fdivP
  | .mod => p2 modP
  | .pow => p2 powP
  | .neg => p1 negP
  | .eq => p2 eqP
  | .ne => p2 neP
  | .lt => p2 (cmpP fun i j => decide (i < j))
  | .le => p2 (cmpP fun i j => decide (i ≤ j))
  | .gt => p2 (cmpP fun i j => decide (j < i))
  | .ge => p2 (cmpP fun i j => decide (j ≤ i))
  | .isin => p2 fun x y => (inP x y).map .bool
  | .notin => p2 fun x y => (inP x y).map fun b => .bool (!b)
  | .isN => p1 (tstP isNone)
  | .notN => p1 (tstP fun d => !isNone d)
  | .ix => p2 ixP
  | .sl0 => p1 fun d => slP d none none
  | .slL => p2 slL
  | .slH => p2 slH
  | .slB => p3 slB
  | .rev => p1 revP
  | .len => p1 lenP
  | .tuple => p1 fun d => (items d).map .tuple
  | .list => p1 fun d => (items d).map .list
  | .sorted => p1 sortedP
  | .sset => p1 ssetP
  | .sortedT => p1 sortedTP
  | .sum => p1 sumP
  | .max1 => p1 max1P
  | .max2 => p2 max2P
  | .min1 => p1 min1P
  | .min2 => p2 min2P
  | .str => p1 strP
  | .int => p1 intP
  | .isInt => p1 (tstP isInt)
  | .isBool => p1 (tstP isBool)
  | .isTuple => p1 (tstP isTup)
  | .isStr => p1 (tstP isStr)
  | .tup => tupP
  | .tuplex => p1 tupxP
  | .lst => lstP
  | .index => p2 indexP
  | .count => p2 countP
  | .join => p2 joinP
  | .split => p2 splitP
  | .rng1 => p1 rng1P
  | .rng2 => p2 rng2P

/-! ### expressions -/
def dVar (i : Nat) : Ex := fun _ r w => match r[i]? with
  | some (some d) => some (.val d, w)
  | _ => none
/-- a slot of a list that is changed in place: not the list itself -/
def dVarM (i : Nat) : Ex := fun _ r w => match r[i]? with
  | some (some d) => if isLst d then none else some (.val d, w)
  | _ => none
def dC (d : D) : Ex := fun _ _ w => some (.val d, w)
def dNil : Exs := fun _ _ w => some (.vals [], w)
def dCons (e : Ex) (es : Exs) : Exs := fun c r w => match e c r w with
  | none => none
  | some (.exc x, w1) => some (.exc x, w1)
  | some (.val d, w1) => match es c r w1 with
    | none => none
    | some (.exc x, w2) => some (.exc x, w2)
    | some (.vals ds, w2) => some (.vals (d :: ds), w2)
def dPrim (p : Pr) (es : Exs) : Ex := fun c r w => match es c r w with
  | none => none
  | some (.exc x, w1) => some (.exc x, w1)
  | some (.vals ds, w1) => (prim p ds).map fun d => (.val d, w1)
def dIte (t a b : Ex) : Ex := fun c r w => match t c r w with
  | none => none
  | some (.exc x, w1) => some (.exc x, w1)
  | some (.val d, w1) => match truth d with
    | none => none
    | some true => a c r w1
    | some false => b c r w1
/-- x and y, x or y, as values -/
def dAnd (a b : Ex) : Ex := fun c r w => match a c r w with
  | none => none
  | some (.exc x, w1) => some (.exc x, w1)
  | some (.val d, w1) => match truth d with
    | none => none
    | some true => b c r w1
    | some false => some (.val d, w1)
def dOr (a b : Ex) : Ex := fun c r w => match a c r w with
  | none => none
  | some (.exc x, w1) => some (.exc x, w1)
  | some (.val d, w1) => match truth d with
    | none => none
    | some true => some (.val d, w1)
    | some false => b c r w1
def dNot (a : Ex) : Ex := fun c r w => match a c r w with
  | none => none
  | some (.exc x, w1) => some (.exc x, w1)
  | some (.val d, w1) => (truth d).map fun b => (.val (.bool (!b)), w1)
/-- a op b op' c -/
def dChain (p q : Pr) (a b e : Ex) : Ex := fun c r w => match a c r w with
  | none => none
  | some (.exc x, w1) => some (.exc x, w1)
  | some (.val da, w1) => match b c r w1 with
    | none => none
    | some (.exc x, w2) => some (.exc x, w2)
    | some (.val db, w2) => match prim p [da, db] with
      | some (.bool true) => (match e c r w2 with
        | none => none
        | some (.exc x, w3) => some (.exc x, w3)
        | some (.val de, w3) => (prim q [db, de]).map fun d => (.val d, w3))
      | some (.bool false) => some (.val (.bool false), w2)
      | _ => none
def dCall (f : Nat) (es : Exs) : Ex := fun c r w => match es c r w with
  | none => none
  | some (.exc x, w1) => some (.exc x, w1)
  | some (.vals ds, w1) => c f ds w1

def isX : D → Bool
  | .dict [(.bool true, .tuple _)] => true
  | _ => false
/-- a.m(b): what a is, is asked ahead of b -/
def dMeth (p : Pr) (ok : D → Bool) (a b : Ex) : Ex := fun c r w => match a c r w with
  | none => none
  | some (.exc x, w1) => some (.exc x, w1)
  | some (.val d, w1) => if ok d = true then (match b c r w1 with
    | none => none
    | some (.exc x, w2) => some (.exc x, w2)
    | some (.val e, w2) => (prim p [d, e]).map fun v => (.val v, w2)) else none
/-- f"{a}t{b}" -/
def dFstr (a : Ex) (t : Str) (b : Ex) : Ex := fun c r w => match a c r w with
  | none => none
  | some (.exc x, w1) => some (.exc x, w1)
  | some (.val d, w1) => match fpiece d with
    | none => none
    | some x => if (Str.empty ++ x).length ≤ zL ∧ ((Str.empty ++ x) ++ t).length ≤ zL then (match b c r w1 with
      | none => none
      | some (.exc y, w2) => some (.exc y, w2)
      | some (.val e, w2) => match fpiece e with
        | none => none
        | some z => if (((Str.empty ++ x) ++ t) ++ z).length ≤ zL then some (.val (.str (((Str.empty ++ x) ++ t) ++ z)), w2) else none) else none
/-! ### sources of items, targets -/
def iSeq (e : Ex) : Exs := fun c r w => match e c r w with
  | none => none
  | some (.exc x, w1) => some (.exc x, w1)
  | some (.val d, w1) => (items d).map fun ds => (.vals ds, w1)
def iRng (es : Exs) : Exs := fun c r w => match es c r w with
  | some (.vals [.int j], w1) => if inR j then some (.vals (rangeD 0 j), w1) else none
  | some (.vals [.int i, .int j], w1) => if inR i && inR j then some (.vals (rangeD i j), w1) else none
  | some (.exc x, w1) => some (.exc x, w1)
  | _ => none
def enumD (ds : List D) : List D := (List.range ds.length).zipWith (fun i d => .tuple [.int (i : Nat), d]) ds
def iEnum (e : Ex) : Exs := fun c r w => match e c r w with
  | none => none
  | some (.exc x, w1) => some (.exc x, w1)
  | some (.val d, w1) => (items d).map fun ds => (.vals (enumD ds), w1)
def iZip (es : Exs) : Exs := fun c r w => match es c r w with
  | some (.vals [.tuple a, .tuple b], w1) => some (.vals (List.zipWith (fun x y => .tuple [x, y]) a b), w1)
  | some (.exc x, w1) => some (.exc x, w1)
  | _ => none
inductive Tg where
  | nm (i : Nat)
  | tp (ts : List Tg)
mutual
def bindT : Tg → D → Env → Option Env
  | .nm i, d, r => some (r.set i (some d))
  | .tp ts, .tuple ds, r => bindTs ts ds r
  | .tp _, _, _ => none
def bindTs : List Tg → List D → Env → Option Env
  | [], [], r => some r
  | t :: ts, d :: ds, r => (bindT t d r).bind (bindTs ts ds)
  | _, _, _ => none
end
def wipeR (r : Env) : List Nat → Env
  | [] => r
  | v :: vs => (wipeR r vs).set v none
/-- the turns of a comprehension: no exception comes out -/
def compGo (c : Cf) (r : Env) (tg : Tg) (cond : Option Ex) (elt : Cf → Env → Om → Option (List D × Om)) : List D → Om → Option (List D × Om)
  | [], w => some ([], w)
  | x :: xs, w => match bindT tg x r with
    | none => none
    | some r1 => match (match cond with
        | none => some (true, w)
        | some t => (match t c r1 w with
          | some (.val d, w1) => (truth d).map fun b => (b, w1)
          | _ => none)) with
      | none => none
      | some (false, w1) => compGo c r tg cond elt xs w1
      | some (true, w1) => match elt c r1 w1 with
        | none => none
        | some (ys, w2) => (compGo c r tg cond elt xs w2).map fun (zs, w3) => (ys ++ zs, w3)
def one (e : Ex) : Cf → Env → Om → Option (List D × Om) := fun c r w => match e c r w with
  | some (.val d, w1) => if plain d then some ([d], w1) else none
  | _ => none
def dComp (src : Exs) (tg : Tg) (cond : Option Ex) (elt : Ex) (own : List Nat) : Ex := fun c r w => match src c r w with
  | none => none
  | some (.exc x, w1) => some (.exc x, w1)
  | some (.vals xs, w1) => match compGo c (wipeR r own) tg cond (one elt) xs w1 with
    | none => none
    | some (ys, w2) => if ys.length ≤ zL then some (.val (.list ys), w2) else none
def inner (src : Exs) (tg : Tg) (elt : Ex) (own : List Nat) : Cf → Env → Om → Option (List D × Om) := fun c r w => match src c r w with
  | some (.vals xs, w1) => compGo c (wipeR r own) tg none (one elt) xs w1
  | _ => none
/-- two fors, without tests -/
def dComp2 (src : Exs) (tg : Tg) (src2 : Exs) (tg2 : Tg) (elt : Ex) (own own2 : List Nat) : Ex := fun c r w => match src c r w with
  | none => none
  | some (.exc x, w1) => some (.exc x, w1)
  | some (.vals xs, w1) => match compGo c (wipeR r own) tg none (inner src2 tg2 elt own2) xs w1 with
    | none => none
    | some (ys, w2) => if ys.length ≤ zL then some (.val (.list ys), w2) else none

/-! ### statements -/
def sPass : Sx := fun _ r w => some (.next r, w)
def sSeq (a b : Sx) : Sx := fun c r w => match a c r w with
  | none => none
  | some (.next r1, w1) => b c r1 w1
  | some (.ret d, w1) => some (.ret d, w1)
  | some (.exc x r1, w1) => some (.exc x r1, w1)
def sIf (t : Ex) (a b : Sx) : Sx := fun c r w => match t c r w with
  | none => none
  | some (.exc x, w1) => some (.exc x r, w1)
  | some (.val d, w1) => match truth d with
    | none => none
    | some true => a c r w1
    | some false => b c r w1
def sRet (e : Ex) : Sx := fun c r w => match e c r w with
  | none => none
  | some (.exc x, w1) => some (.exc x r, w1)
  | some (.val d, w1) => some (.ret d, w1)
def sExpr (e : Ex) : Sx := fun c r w => match e c r w with
  | none => none
  | some (.exc x, w1) => some (.exc x r, w1)
  | some (.val _, w1) => some (.next r, w1)
def sAsg (i : Nat) (e : Ex) : Sx := fun c r w => match e c r w with
  | none => none
  | some (.exc x, w1) => some (.exc x r, w1)
  | some (.val d, w1) => some (.next (r.set i (some d)), w1)
/-- into a slot of a list that is changed in place: anything but a list -/
def sAsgN (i : Nat) (e : Ex) : Sx := fun c r w => match e c r w with
  | none => none
  | some (.exc x, w1) => some (.exc x r, w1)
  | some (.val d, w1) => if isLst d then none else some (.next (r.set i (some d)), w1)
/-- a, b = x, y -/
def setAll : List Nat → List D → Env → Option Env
  | [], [], r => some r
  | i :: is, d :: ds, r => setAll is ds (r.set i (some d))
  | _, _, _ => none
def sPar (is : List Nat) (es : Exs) : Sx := fun c r w => match es c r w with
  | none => none
  | some (.exc x, w1) => some (.exc x r, w1)
  | some (.vals ds, w1) => (setAll is ds r).map fun r1 => (.next r1, w1)
/-- (a, (b, c)) = e -/
def sAsgT (t : Tg) (e : Ex) : Sx := fun c r w => match e c r w with
  | none => none
  | some (.exc x, w1) => some (.exc x r, w1)
  | some (.val d, w1) => (bindT t d r).map fun r1 => (.next r1, w1)
def sAug (i : Nat) (p : Pr) (e : Ex) : Sx := fun c r w => match r[i]? with
  | some (some (.int a)) => (match e c r w with
    | none => none
    | some (.exc x, w1) => some (.exc x r, w1)
    | some (.val (.int b), w1) => (prim p [.int a, .int b]).map fun d => (.next (r.set i (some d)), w1)
    | some (.val _, _) => none)
  | _ => none
def sAppend (i : Nat) (e : Ex) : Sx := fun c r w => match r[i]? with
  | some (some (.list ds)) => (match e c r w with
    | none => none
    | some (.exc x, w1) => some (.exc x r, w1)
    | some (.val d, w1) => if plain d && decide (ds.length < zL) then some (.next (r.set i (some (.list (ds ++ [d])))), w1) else none)
  | _ => none
/-- x.append(y), y a list that was changed in place: it is y no more -/
def sAppendMv (i j : Nat) : Sx := fun _ r w => match r[i]?, r[j]? with
  | some (some (.list ds)), some (some d) => if isLst d && decide (ds.length < zL) && decide (i ≠ j) then some (.next ((r.set i (some (.list (ds ++ [d])))).set j none), w) else none
  | _, _ => none
def sExtend (i : Nat) (e : Ex) : Sx := fun c r w => match r[i]? with
  | some (some (.list ds)) => (match e c r w with
    | none => none
    | some (.exc x, w1) => some (.exc x r, w1)
    | some (.val (.list zs), w1) => if ds.length + zs.length ≤ zL then some (.next (r.set i (some (.list (ds ++ zs)))), w1) else none
    | some (.val _, _) => none)
  | _ => none
/-- x[k] = e -/
def sSetIx (i : Nat) (k e : Ex) : Sx := fun c r w => match e c r w with
  | none => none
  | some (.exc x, w1) => some (.exc x r, w1)
  | some (.val d, w1) => match r[i]? with
    | some (some (.list ds)) => (match k c r w1 with
      | none => none
      | some (.exc x, w2) => some (.exc x r, w2)
      | some (.val (.int n), w2) => if plain d then (ixAt ds.length n).map fun j => (.next (r.set i (some (.list (ds.set j d)))), w2) else none
      | some (.val _, _) => none)
    | _ => none
/-- y = x.pop(0) -/
def sPop0 (y i : Nat) : Sx := fun _ r w => match r[i]? with
  | some (some (.list (d :: ds))) => if y ≠ i then some (.next ((r.set i (some (.list ds))).set y (some d)), w) else none
  | _ => none
def forGo (c : Cf) (tg : Tg) (body : Sx) : List D → Env → Om → Option (Out × Om)
  | [], r, w => some (.next r, w)
  | x :: xs, r, w => match bindT tg x r with
    | none => none
    | some r1 => match body c r1 w with
      | none => none
      | some (.next r2, w2) => forGo c tg body xs r2 w2
      | some (.ret d, w2) => some (.ret d, w2)
      | some (.exc x r2, w2) => some (.exc x r2, w2)
def sFor (src : Exs) (tg : Tg) (body : Sx) : Sx := fun c r w => match src c r w with
  | none => none
  | some (.exc x, w1) => some (.exc x r, w1)
  | some (.vals xs, w1) => forGo c tg body xs r w1
def whileGo (c : Cf) (t : Ex) (body : Sx) : Nat → Env → Om → Option (Out × Om)
  | 0, _, _ => none
  | n + 1, r, w => match t c r w with
    | none => none
    | some (.exc x, w1) => some (.exc x r, w1)
    | some (.val d, w1) => match truth d with
      | none => none
      | some false => some (.next r, w1)
      | some true => match body c r w1 with
        | none => none
        | some (.next r2, w2) => whileGo c t body n r2 w2
        | some (.ret d, w2) => some (.ret d, w2)
        | some (.exc x r2, w2) => some (.exc x r2, w2)
def sWhile (n : Nat) (t : Ex) (body : Sx) : Sx := fun c r w => whileGo c t body n r w
/-- raise a class without a field -/
def sRaise (k : Nat) : Sx := fun _ r w => some (.exc ⟨k, .none⟩ r, w)
/-- is class c one of class k: 0 is the base of all -/
def subX (c k : Nat) : Bool := c == k || k == 0
/-- except clauses: the class, what is given back for a caught one -/
def hGo (x : Xn) (r : Env) (w : Om) : List (Nat × (Xn → Option D)) → Option (Out × Om)
  | [] => some (.exc x r, w)
  | (k, g) :: hs => if subX x.cls k then (g x).map fun d => (.ret d, w) else hGo x r w hs
def sTry (body : Sx) (hs : List (Nat × (Xn → Option D))) : Sx := fun c r w => match body c r w with
  | none => none
  | some (.exc x r1, w1) => hGo x r1 w1 hs
  | some (.next r1, w1) => some (.next r1, w1)
  | some (.ret d, w1) => some (.ret d, w1)

/-- what has no rule: no word about it -/
def sStuck : Sx := fun _ _ _ => none
/-- try with one clause `except k as e` (slot i) whose suite goes on -/
def sTryE (body : Sx) (k i : Nat) (su : Xn → Sx) : Sx := fun c r w => match body c r w with
  | none => none
  | some (.exc x r1, w1) => if subX x.cls k then (if i < r1.length then (match su x c (r1.set i none) w1 with
      | some (.next r2, w2) => some (.next (r2.set i none), w2)
      | _ => none) else none) else some (.exc x r1, w1)
  | some (.next r1, w1) => some (.next r1, w1)
  | some (.ret d, w1) => some (.ret d, w1)

/-! ### defs -/
structure Fd where
  params : Nat
  slots : Nat
  body : Sx
abbrev Tb := Nat → Option Fd
def fin : Option (Out × Om) → Option (R × Om)
  | none => none
  | some (.next _, w) => some (.val .none, w)
  | some (.ret d, w) => some (.val d, w)
  | some (.exc x _, w) => some (.exc x, w)
def run (T : Tb) : Nat → Cf
  | 0, _, _, _ => none
  | n + 1, f, ds, w => match T f with
    | none => none
    | some F => if ds.length = F.params ∧ F.params ≤ F.slots then fin (F.body (run T n) (ds.map some ++ List.replicate (F.slots - F.params) none) w) else none
end Rx

set_option linter.all false
/-! RxP1: worker objects; an exception with a line. -/
namespace Rx
open PySem
/-- the number of a worker -/
def isO : D → Option Nat
  | .dict [(.int i, .none)] => if 0 ≤ i then some i.toNat else none
  | _ => none
theorem isO_obj (i : Nat) : isO (dObj i) = some i := by
  unfold isO dObj
  simp
theorem isO_eq {d : D} {i : Nat} (h : isO d = some i) : d = dObj i := by
  unfold isO at h
  split at h
  · rename_i j
    split at h
    · rename_i hj
      cases h
      unfold dObj
      rw [Int.toNat_of_nonneg hj]
    · cases h
  · cases h
def putD (f : Str) (d : D) : Fs → Fs
  | [] => [(f, d)]
  | (g, x) :: r => if g = f then (g, d) :: r else (g, x) :: putD f d r
/-- o.f -/
def dFld (o : Ex) (f : Str) : Ex := fun c r w => match o c r w with
  | none => none
  | some (.exc x, w1) => some (.exc x, w1)
  | some (.val d, w1) => match isO d with
    | none => none
    | some i => match w1[i]? with
      | none => none
      | some fs => (fs.lookup f).map fun v => (.val v, w1)
/-- o.f = e -/
def sFld (o : Ex) (f : Str) (e : Ex) : Sx := fun c r w => match e c r w with
  | none => none
  | some (.exc x, w1) => some (.exc x r, w1)
  | some (.val d, w1) => match o c r w1 with
    | none => none
    | some (.exc x, w2) => some (.exc x r, w2)
    | some (.val b, w2) => match isO b with
      | none => none
      | some i => match w2[i]? with
        | none => none
        | some fs => if plain d = true ∧ fs.length < 100 then some (.next r, w2.set i (putD f d fs)) else none
/-- C(..): a new worker, then its __init__ -/
def dMk (fid : Nat) (es : Exs) : Ex := fun c r w => match es c r w with
  | none => none
  | some (.exc x, w1) => some (.exc x, w1)
  | some (.vals ds, w1) => match c fid (dObj w1.length :: ds) (w1 ++ [[]]) with
    | none => none
    | some (.exc x, w2) => some (.exc x, w2)
    | some (.val d, w2) => if isNone d = true then some (.val (dObj w1.length), w2) else none
/-- o.m(..) -/
def dMt (fid : Nat) (m : Str) (o : Ex) (es : Exs) : Ex := fun c r w => match o c r w with
  | none => none
  | some (.exc x, w1) => some (.exc x, w1)
  | some (.val d, w1) => match isO d with
    | none => none
    | some i => match w1[i]? with
      | none => none
      | some fs => if (fs.lookup m).isNone = true then (match es c r w1 with
        | none => none
        | some (.exc x, w2) => some (.exc x, w2)
        | some (.vals ds, w2) => c fid (d :: ds) w2) else none
def isLenV : D → Bool
  | .int n => decide (0 ≤ n) && decide (n < 2 ^ 62)
  | _ => false
/-- len(o), str(o) by the class's own method: ok tells what it may give back -/
def dOwn (fid : Nat) (ok : D → Bool) (o : Ex) : Ex := fun c r w => match o c r w with
  | none => none
  | some (.exc x, w1) => some (.exc x, w1)
  | some (.val d, w1) => match isO d with
    | none => none
    | some _ => match c fid [d] w1 with
      | some (.val v, w2) => if ok v = true then some (.val v, w2) else none
      | _ => none
/-- is it a worker, a text, a tuple? -/
def cmpAble (d : D) : Bool := (isO d).isSome || isStr d || isTup d
/-- a == b, a != b by the class's own == -/
def dEqO (fid : Nat) (neg : Bool) (a b : Ex) : Ex := fun c r w => match a c r w with
  | none => none
  | some (.exc x, w1) => some (.exc x, w1)
  | some (.val d, w1) => match b c r w1 with
    | none => none
    | some (.exc x, w2) => some (.exc x, w2)
    | some (.val e, w2) => match isO d with
      | none => none
      | some _ => if cmpAble e = true then (match c fid [d, e] w2 with
        | some (.val (.bool t), w3) => some (.val (.bool (xor neg t)), w3)
        | _ => none) else none
/-- isinstance(e, C) -/
def dIsO (e : Ex) : Ex := fun c r w => match e c r w with
  | none => none
  | some (.exc x, w1) => some (.exc x, w1)
  | some (.val d, w1) => if cmpAble d = true then some (.val (.bool (isO d).isSome), w1) else none
/-- raise the exception with a line -/
def sRaiseL (e : Ex) : Sx := fun c r w => match e c r w with
  | none => none
  | some (.exc x, w1) => some (.exc x r, w1)
  | some (.val d, w1) => if plain d = true then some (.exc ⟨1, d⟩ r, w1) else none
end Rx
namespace Rx
open PySem
/-- the place of a figure among the figures -/
def digIx (x : Str) : Option Nat :=
  if x = "0" then some 0 else if x = "1" then some 1 else if x = "2" then some 2 else if x = "3" then some 3 else if x = "4" then some 4 else
  if x = "5" then some 5 else if x = "6" then some 6 else if x = "7" then some 7 else if x = "8" then some 8 else if x = "9" then some 9 else none
def sixP : D → D → Option D
  | .str a, .str b => if a = "0123456789" then (digIx b).map fun i => .int (i : Nat) else none
  | _, _ => none
/-- the pieces of a text between signs c -/
def splP : D → D → Option D
  | .str x, .str y => (sign? y).bind fun c => if c < 256 ∧ x.length ≤ zL then some (.list ((splitS c x.cps.toList).map fun l => .str ⟨l.toArray⟩)) else none
  | _, _ => none
/-- a.m(b), of texts -/
def dM2 (f : D → D → Option D) (a b : Ex) : Ex := fun c r w => match a c r w with
  | none => none
  | some (.exc x, w1) => some (.exc x, w1)
  | some (.val d, w1) => if isStr d = true then (match b c r w1 with
    | none => none
    | some (.exc x, w2) => some (.exc x, w2)
    | some (.val e, w2) => (f d e).map fun v => (.val v, w2)) else none
def dSix : Ex → Ex → Ex := dM2 sixP
def dSpl : Ex → Ex → Ex := dM2 splP
/-- a >= b, of pairs of ints -/
def geT : D → D → Option D
  | .tuple [.int a, .int b], .tuple [.int c, .int d] => some (.bool (if a = c then decide (d ≤ b) else decide (c ≤ a)))
  | _, _ => none
def dGeT (a b : Ex) : Ex := fun c r w => match dCons a (dCons b dNil) c r w with
  | none => none
  | some (.exc x, w1) => some (.exc x, w1)
  | some (.vals ds, w1) => (p2 geT ds).map fun v => (.val v, w1)
/-- what a caught exception is, class by class; its line if m is 8 -/
def sSix (x : Xn) (jf ju jl jm : Nat) (ks : List Nat) : Sx := fun _ r w => match r[jm]? with
  | some (some (.int m)) => if jf < r.length then
      (if m = 8 then (if x.cls = 1 then some (.next (((r.set jf (some (.list (ks.map fun k => .bool (subX x.cls k))))).set ju (some (.bool true))).set jl (some x.line)), w) else none)
      else some (.next (((r.set jf (some (.list (ks.map fun k => .bool (subX x.cls k))))).set ju (some (.bool true))).set jl (some (.str "none"))), w)) else none
  | _ => none
/-- sorted(set(t)), t a tuple of pairs of ints -/
def ssetT : D → Option D
  | .tuple ds => (prsOf ds).bind fun ps => if ps.length < 64 ∧ ps.all prOk = true then some (.list ((usort prKey ps).map dPr)) else none
  | _ => none
def dSst (a : Ex) : Ex := fun c r w => match a c r w with
  | none => none
  | some (.exc x, w1) => some (.exc x, w1)
  | some (.val d, w1) => (ssetT d).map fun v => (.val v, w1)
end Rx

set_option linter.all false
set_option autoImplicit false
/-! RxP2: sorted(set(xs)), xs an ascending list of rows (tuples of pairs of ints) no two of which hash alike. -/
namespace Rx
open PySem
def rwsOf : List D → Option (List (List (Int × Int)))
  | [] => some []
  | .tuple ds :: r => (prsOf ds).bind fun ps => (rwsOf r).map (ps :: ·)
  | _ => none
def dRow (r : List (Int × Int)) : D := .tuple (r.map dPr)
def prH (p : Int × Int) : Int := reduceHash (Builtin.Tuple.tupleHashOf [hashInt p.1, hashInt p.2])
/-- hash(row) -/
def rowH (r : List (Int × Int)) : Int := reduceHash (Builtin.Tuple.tupleHashOf (r.map prH))
def ndI : List Int → Bool
  | [] => true
  | x :: r => !r.contains x && ndI r
def strB : List D → Bool
  | x :: y :: r => !led y x && strB (y :: r)
  | _ => true
def sslP : D → Option D
  | .list ds => (rwsOf ds).bind fun rs => if (decide (rs.length ≤ 300) && (ndI (rs.map rowH) && (strB ds && srtOk ds))) = true then some (.list ds) else none
  | _ => none
def dSsl (a : Ex) : Ex := fun c r w => match a c r w with
  | none => none
  | some (.exc x, w1) => some (.exc x, w1)
  | some (.val d, w1) => (sslP d).map fun v => (.val v, w1)
end Rx

set_option linter.all false
set_option autoImplicit false
/-! RxP3: a dict whose keys are rows (an object of the world: its entries in order, each a tuple of the key and the value). -/
namespace Rx
open PySem
def kvE (k v : D) : Str × D := ("", .tuple [k, v])
/-- {k: None}, k a name -/
def dDct (i : Nat) : Ex := fun _ r w => match r[i]? with
  | some (some d) => (rwsOf [d]).map fun _ => (.val (dObj w.length), w ++ [[kvE d .none]])
  | _ => none
/-- what stands at a key -/
def atD (fs : Fs) (k : D) : Option D := match fs with
  | [] => none
  | (_, .tuple [k', v]) :: r => if eqd k' k then some v else atD r k
  | _ :: r => atD r k
def isO' : D → Option Nat
  | .dict [(.int i, .none)] => if 0 ≤ i then some i.toNat else none
  | _ => none
/-- x not in d -/
def dNinD (x d : Ex) : Ex := fun c r w => match x c r w with
  | none => none
  | some (.exc y, w1) => some (.exc y, w1)
  | some (.val dx, w1) => match d c r w1 with
    | none => none
    | some (.exc y, w2) => some (.exc y, w2)
    | some (.val dd, w2) => match isO' dd with
      | none => none
      | some i => match w2[i]? with
        | none => none
        | some fs => (rwsOf [dx]).map fun _ => (.val (.bool (!(atD fs dx).isSome)), w2)
/-- d[x] -/
def dGetD (d x : Ex) : Ex := fun c r w => match d c r w with
  | none => none
  | some (.exc y, w1) => some (.exc y, w1)
  | some (.val dd, w1) => match x c r w1 with
    | none => none
    | some (.exc y, w2) => some (.exc y, w2)
    | some (.val dx, w2) => match isO' dd with
      | none => none
      | some i => match w2[i]? with
        | none => none
        | some fs => (rwsOf [dx]).bind fun _ => (atD fs dx).map fun v => (.val v, w2)
/-- d[k] = e, d a name, k a key that is not there yet -/
def sSetD (i : Nat) (k e : Ex) : Sx := fun c r w => match e c r w with
  | none => none
  | some (.exc y, w1) => some (.exc y r, w1)
  | some (.val de, w1) => match r[i]? with
      | some (some dd) => (match k c r w1 with
        | none => none
        | some (.exc y, w3) => some (.exc y r, w3)
        | some (.val dk, w3) => (match isO' dd with
          | none => none
          | some j => match w3[j]? with
            | none => none
            | some fs => (rwsOf [dk, de]).bind fun _ => if (atD fs dk).isSome || decide (900 < fs.length) then none else some (.next r, w3.set j (fs ++ [kvE dk de]))))
      | _ => none
/-- sorted(set(xs)), xs a list of rows; rows that hash alike are alike -/
def insR (x : D) : List D → List D
  | [] => [x]
  | y :: r => if !led y x then x :: y :: r else if !led x y then y :: insR x r else y :: r
def usrt : List D → List D
  | [] => []
  | x :: r => insR x (usrt r)
def inj1 (rs : List (List (Int × Int))) : Bool := rs.all fun a => rs.all fun b => !decide (rowH a = rowH b) || decide (a = b)
def asy1 (rs : List (List (Int × Int))) : Bool := rs.all fun a => rs.all fun b => !(led (dRow a) (dRow b) && led (dRow b) (dRow a)) || decide (a = b)
def ssuP : D → Option D
  | .list ds => (rwsOf ds).bind fun rs => if (decide (rs.length ≤ 300) && (inj1 rs && (asy1 rs && srtOk ds))) = true then some (.list (usrt ds)) else none
  | _ => none
def dSsu (a : Ex) : Ex := fun c r w => match a c r w with
  | none => none
  | some (.exc x, w1) => some (.exc x, w1)
  | some (.val d, w1) => (ssuP d).map fun v => (.val v, w1)
end Rx

set_option linter.all false
set_option maxRecDepth 100000
set_option autoImplicit false
namespace Rx
open PySem
def b_in_range : Sx :=
  (sRet (dAnd (dPrim .isInt (dCons (dVar 0) dNil)) (dAnd (dNot (dPrim .isBool (dCons (dVar 0) dNil))) (dChain .le .le (dVar 1) (dVar 0) (dVar 2)))))
def b_check_size : Sx :=
  (sIf (dNot (dCall 1 (dCons (dVar 0) (dCons (dC (.int 2)) (dCons (dC (.int 6)) dNil)))))
    (sRaise 2)
    sPass)
def b_is_exchange : Sx :=
  (sSeq (sIf (dOr (dNot (dPrim .isTuple (dCons (dVar 1) dNil))) (dOr (dPrim .ne (dCons (dPrim .len (dCons (dVar 1) dNil)) (dCons (dC (.int 2)) dNil))) (dNot (dCall 1 (dCons (dPrim .ix (dCons (dVar 1) (dCons (dC (.int 0)) dNil))) (dCons (dC (.int 0)) (dCons (dPrim .sub (dCons (dVar 0) (dCons (dC (.int 1)) dNil))) dNil)))))))
    (sRet (dC (.bool false)))
    sPass)
    (sRet (dCall 1 (dCons (dPrim .ix (dCons (dVar 1) (dCons (dC (.int 1)) dNil))) (dCons (dPrim .add (dCons (dPrim .ix (dCons (dVar 1) (dCons (dC (.int 0)) dNil))) (dCons (dC (.int 1)) dNil))) (dCons (dPrim .sub (dCons (dVar 0) (dCons (dC (.int 1)) dNil))) dNil))))))
def b_are_exchanges : Sx :=
  (sSeq (sIf (dOr (dNot (dPrim .isTuple (dCons (dVar 1) dNil))) (dPrim .gt (dCons (dPrim .len (dCons (dVar 1) dNil)) (dCons (dVar 2) dNil))))
    (sRet (dC (.bool false)))
    sPass)
    (sRet (dNot (dComp (iSeq (dVar 1)) (.nm 3) (some (dNot (dCall 3 (dCons (dVar 0) (dCons (dVar 3) dNil))))) (dVar 3) [3]))))
def b_check_list : Sx :=
  (sSeq (sExpr (dCall 2 (dCons (dVar 0) dNil)))
    (sIf (dOr (dNot (dCall 4 (dCons (dVar 0) (dCons (dVar 1) (dCons (dPrim .sub (dCons (dVar 0) (dCons (dC (.int 1)) dNil))) dNil))))) (dPrim .ne (dCons (dPrim .len (dCons (dVar 1) dNil)) (dCons (dPrim .sub (dCons (dVar 0) (dCons (dC (.int 1)) dNil))) dNil))))
    (sRaise 3)
    sPass))
def b_check_part : Sx :=
  (sSeq (sExpr (dCall 2 (dCons (dVar 0) dNil)))
    (sIf (dNot (dCall 4 (dCons (dVar 0) (dCons (dVar 1) (dCons (dPrim .sub (dCons (dVar 0) (dCons (dC (.int 1)) dNil))) dNil)))))
    (sRaise 3)
    sPass))
def b_moved : Sx :=
  (sSeq (sIf (dPrim .eq (dCons (dVar 1) (dCons (dPrim .ix (dCons (dVar 0) (dCons (dC (.int 0)) dNil))) dNil)))
    (sRet (dPrim .ix (dCons (dVar 0) (dCons (dC (.int 1)) dNil))))
    sPass)
    (sRet (dIte (dPrim .eq (dCons (dVar 1) (dCons (dPrim .ix (dCons (dVar 0) (dCons (dC (.int 1)) dNil))) dNil))) (dPrim .ix (dCons (dVar 0) (dCons (dC (.int 0)) dNil))) (dVar 1))))
def b_result_of : Sx :=
  (sSeq (sAsg 2 (dPrim .lst dNil))
    (sSeq (sFor (iRng (dCons (dVar 0) dNil)) (.nm 3)
    (sSeq (sAsg 4 (dVar 3))
    (sSeq (sFor (iSeq (dVar 1)) (.nm 5)
    (sAsg 4 (dCall 7 (dCons (dVar 5) (dCons (dVar 4) dNil)))))
    (sAppend 2 (dVar 4)))))
    (sRet (dPrim .tuplex (dCons (dVar 2) dNil)))))
def b_result : Sx :=
  (sSeq (sExpr (dCall 6 (dCons (dVar 0) (dCons (dVar 1) dNil))))
    (sRet (dCall 8 (dCons (dVar 0) (dCons (dVar 1) dNil)))))
def b_is_round_list : Sx :=
  (sRet (dPrim .eq (dCons (dCall 8 (dCons (dVar 0) (dCons (dVar 1) dNil))) (dCons (dPrim .add (dCons (dPrim .tuple (dCons (dPrim .rng2 (dCons (dC (.int 1)) (dCons (dVar 0) dNil))) dNil)) (dCons (dPrim .tup (dCons (dC (.int 0)) dNil)) dNil))) dNil))))
def b_is_round : Sx :=
  (sSeq (sExpr (dCall 5 (dCons (dVar 0) (dCons (dVar 1) dNil))))
    (sRet (dCall 10 (dCons (dVar 0) (dCons (dVar 1) dNil)))))
def t_groups_of : Sx :=
  (sSeq (sAsg 3 (dPrim .lst dNil))
    (sSeq (sFor (iRng (dCons (dVar 0) dNil)) (.nm 4)
    (sIf (dNot (dComp (iSeq (dVar 3)) (.nm 5) (some (dPrim .isin (dCons (dVar 4) (dCons (dVar 5) dNil)))) (dVar 5) [5]))
    (sSeq (sAsg 5 (dPrim .lst (dCons (dVar 4) dNil)))
    (sSeq (sWhile 1000 (dPrim .ne (dCons (dPrim .ix (dCons (dVar 2) (dCons (dPrim .ix (dCons (dVar 5) (dCons (dPrim .neg (dCons (dC (.int 1)) dNil)) dNil))) dNil))) (dCons (dVar 4) dNil)))
    (sAppend 5 (dPrim .ix (dCons (dVar 2) (dCons (dPrim .ix (dCons (dVar 5) (dCons (dPrim .neg (dCons (dC (.int 1)) dNil)) dNil))) dNil)))))
    (sAppend 3 (dPrim .tuple (dCons (dPrim .sorted (dCons (dVar 5) dNil)) dNil)))))
    sPass))
    (sRet (dVar 3))))
def b_groups_of : Sx := sSeq (sAsg 2 (dCall 8 (dCons (dVar 0) (dCons (dVar 1) dNil)))) t_groups_of
def b_groups : Sx :=
  (sSeq (sExpr (dCall 6 (dCons (dVar 0) (dCons (dVar 1) dNil))))
    (sSeq (sIf (dNot (dCall 1 (dCons (dVar 2) (dCons (dC (.int 0)) (dCons (dPrim .len (dCons (dVar 1) dNil)) dNil)))))
    (sRaise 4)
    sPass)
    (sRet (dCall 12 (dCons (dVar 0) (dCons (dPrim .slH (dCons (dVar 1) (dCons (dVar 2) dNil))) dNil))))))
def b_every_exchange : Sx :=
  (sRet (dComp2 (iRng (dCons (dVar 0) dNil)) (.nm 1) (iRng (dCons (dPrim .add (dCons (dVar 1) (dCons (dC (.int 1)) dNil))) (dCons (dVar 0) dNil))) (.nm 2) (dPrim .tup (dCons (dVar 1) (dCons (dVar 2) dNil))) [1, 2] [2]))
def t_rest_groups : Sx :=
  (sSeq (sAsg 3 (dComp (iRng (dCons (dVar 0) dNil)) (.nm 8) none (dMeth .index isX (dVar 2) (dVar 8)) [8]))
    (sSeq (sAsg 4 (dComp (iRng (dCons (dVar 0) dNil)) (.nm 8) none (dPrim .mod (dCons (dPrim .add (dCons (dPrim .ix (dCons (dVar 3) (dCons (dVar 8) dNil))) (dCons (dC (.int 1)) dNil))) (dCons (dVar 0) dNil))) [8]))
    (sSeq (sAsg 5 (dPrim .lst dNil))
    (sSeq (sFor (iRng (dCons (dVar 0) dNil)) (.nm 6)
    (sIf (dNot (dComp (iSeq (dVar 5)) (.nm 7) (some (dPrim .isin (dCons (dVar 6) (dCons (dVar 7) dNil)))) (dVar 7) [7]))
    (sSeq (sAsg 7 (dPrim .lst (dCons (dVar 6) dNil)))
    (sSeq (sWhile 1000 (dPrim .ne (dCons (dPrim .ix (dCons (dVar 4) (dCons (dPrim .ix (dCons (dVar 7) (dCons (dPrim .neg (dCons (dC (.int 1)) dNil)) dNil))) dNil))) (dCons (dVar 6) dNil)))
    (sAppend 7 (dPrim .ix (dCons (dVar 4) (dCons (dPrim .ix (dCons (dVar 7) (dCons (dPrim .neg (dCons (dC (.int 1)) dNil)) dNil))) dNil)))))
    (sAppendMv 5 7)))
    sPass))
    (sRet (dVar 5))))))
def b_rest_groups : Sx := sSeq (sAsg 2 (dCall 8 (dCons (dVar 0) (dCons (dVar 1) dNil)))) t_rest_groups
def b_completions_of : Sx :=
  (sSeq (sAsg 2 (dCall 15 (dCons (dVar 0) (dCons (dVar 1) dNil))))
    (sSeq (sIf (dPrim .ne (dCons (dPrim .sub (dCons (dVar 0) (dCons (dPrim .len (dCons (dVar 2) dNil)) dNil))) (dCons (dPrim .sub (dCons (dPrim .sub (dCons (dVar 0) (dCons (dC (.int 1)) dNil))) (dCons (dPrim .len (dCons (dVar 1) dNil)) dNil))) dNil)))
    (sRet (dC (.int 0)))
    sPass)
    (sSeq (sAsg 3 (dC (.int 1)))
    (sSeq (sFor (iRng (dCons (dC (.int 1)) (dCons (dPrim .sub (dCons (dVar 0) (dCons (dPrim .len (dCons (dVar 1) dNil)) dNil))) dNil))) (.nm 4)
    (sAug 3 .mul (dVar 4)))
    (sSeq (sFor (iSeq (dVar 2)) (.nm 5)
    (sSeq (sAsg 6 (dC (.int 1)))
    (sSeq (sFor (iRng (dCons (dC (.int 2)) (dCons (dPrim .len (dCons (dVar 5) dNil)) dNil))) (.nm 4)
    (sSeq (sAug 3 .mul (dPrim .len (dCons (dVar 5) dNil)))
    (sAug 6 .mul (dVar 4))))
    (sAug 3 .fdiv (dVar 6)))))
    (sRet (dVar 3)))))))
def b_count_completions : Sx :=
  (sSeq (sExpr (dCall 6 (dCons (dVar 0) (dCons (dVar 1) dNil))))
    (sRet (dCall 16 (dCons (dVar 0) (dCons (dVar 1) dNil)))))
def b_next_exchanges : Sx :=
  (sSeq (sExpr (dCall 6 (dCons (dVar 0) (dCons (dVar 1) dNil))))
    (sSeq (sIf (dPrim .eq (dCons (dPrim .len (dCons (dVar 1) dNil)) (dCons (dPrim .sub (dCons (dVar 0) (dCons (dC (.int 1)) dNil))) dNil)))
    (sRet (dPrim .lst dNil))
    sPass)
    (sRet (dComp (iSeq (dCall 14 (dCons (dVar 0) dNil))) (.nm 2) (some (dPrim .gt (dCons (dCall 16 (dCons (dVar 0) (dCons (dPrim .add (dCons (dVar 1) (dCons (dPrim .tup (dCons (dVar 2) dNil)) dNil))) dNil))) (dCons (dC (.int 0)) dNil)))) (dVar 2) [2]))))
def b_cross : Sx :=
  (sSeq (sAsg 2 (dComp (iSeq (dVar 1)) (.nm 4) (some (dChain .lt .lt (dPrim .ix (dCons (dVar 0) (dCons (dC (.int 0)) dNil))) (dVar 4) (dPrim .ix (dCons (dVar 0) (dCons (dC (.int 1)) dNil))))) (dVar 4) [4]))
    (sSeq (sAsg 3 (dComp (iSeq (dVar 1)) (.nm 4) (some (dOr (dPrim .lt (dCons (dVar 4) (dCons (dPrim .ix (dCons (dVar 0) (dCons (dC (.int 0)) dNil))) dNil))) (dPrim .gt (dCons (dVar 4) (dCons (dPrim .ix (dCons (dVar 0) (dCons (dC (.int 1)) dNil))) dNil))))) (dVar 4) [4]))
    (sRet (dAnd (dPrim .eq (dCons (dPrim .len (dCons (dVar 2) dNil)) (dCons (dC (.int 1)) dNil))) (dPrim .eq (dCons (dPrim .len (dCons (dVar 3) dNil)) (dCons (dC (.int 1)) dNil)))))))
def b_far_end : Sx :=
  (sRet (dPrim .mod (dCons (dPrim .sub (dCons (dPrim .sum (dCons (dVar 1) dNil)) (dCons (dPrim .mul (dCons (dC (.int 2)) (dCons (dVar 2) dNil))) dNil))) (dCons (dVar 0) dNil))))
def b_wrong_turns : Sx :=
  (sSeq (sAsg 2 (dPrim .lst dNil))
    (sSeq (sFor (iEnum (dVar 1)) (.tp [(.nm 3), (.nm 4)])
    (sFor (iEnum (dPrim .slH (dCons (dVar 1) (dCons (dVar 3) dNil)))) (.tp [(.nm 5), (.nm 6)])
    (sSeq (sAsg 7 (dComp (iSeq (dVar 6)) (.nm 8) (some (dPrim .isin (dCons (dVar 8) (dCons (dVar 4) dNil)))) (dVar 8) [8]))
    (sIf (dComp (iSeq (dVar 7)) (.nm 8) (some (dPrim .ge (dCons (dCall 20 (dCons (dVar 0) (dCons (dVar 6) (dCons (dVar 8) dNil)))) (dCons (dCall 20 (dCons (dVar 0) (dCons (dVar 4) (dCons (dVar 8) dNil)))) dNil)))) (dVar 8) [8])
    (sAppend 2 (dPrim .tup (dCons (dC (.str "turn")) (dCons (dVar 5) (dCons (dVar 3) dNil)))))
    sPass))))
    (sRet (dPrim .sorted (dCons (dVar 2) dNil)))))
def b_crossings : Sx :=
  (sSeq (sAsg 1 (dPrim .lst dNil))
    (sSeq (sFor (iEnum (dVar 0)) (.tp [(.nm 2), (.nm 3)])
    (sExtend 1 (dComp (iEnum (dPrim .slH (dCons (dVar 0) (dCons (dVar 2) dNil)))) (.tp [(.nm 4), (.nm 5)]) (some (dCall 19 (dCons (dVar 5) (dCons (dVar 3) dNil)))) (dPrim .tup (dCons (dC (.str "cross")) (dCons (dVar 4) (dCons (dVar 2) dNil)))) [4, 5])))
    (sRet (dPrim .sorted (dCons (dVar 1) dNil)))))
def b_closing : Sx :=
  (sSeq (sAsg 2 (dPrim .list (dCons (dPrim .rng1 (dCons (dVar 0) dNil)) dNil)))
    (sSeq (sFor (iEnum (dVar 1)) (.tp [(.nm 3), (.tp [(.nm 4), (.nm 5)])])
    (sSeq (sIf (dPrim .eq (dCons (dPrim .ix (dCons (dVar 2) (dCons (dVar 4) dNil))) (dCons (dPrim .ix (dCons (dVar 2) (dCons (dVar 5) dNil))) dNil)))
    (sRet (dVar 3))
    sPass)
    (sAsg 2 (dComp (iSeq (dVar 2)) (.nm 6) none (dIte (dPrim .eq (dCons (dVar 6) (dCons (dPrim .ix (dCons (dVar 2) (dCons (dVar 5) dNil))) dNil))) (dPrim .ix (dCons (dVar 2) (dCons (dVar 4) dNil))) (dVar 6)) [6]))))
    (sRet (dC .none))))
def b_is_paper : Sx :=
  (sSeq (sExpr (dCall 5 (dCons (dVar 0) (dCons (dVar 1) dNil))))
    (sSeq (sIf (dOr (dNot (dPrim .isTuple (dCons (dVar 2) dNil))) (dOr (dNot (dVar 2)) (dNot (dPrim .isStr (dCons (dPrim .ix (dCons (dVar 2) (dCons (dC (.int 0)) dNil))) dNil)))))
    (sRet (dC (.bool false)))
    sPass)
    (sSeq (sIf (dComp (iSeq (dPrim .slL (dCons (dVar 2) (dCons (dC (.int 1)) dNil)))) (.nm 3) (some (dNot (dCall 1 (dCons (dVar 3) (dCons (dC (.int 0)) (dCons (dPrim .sub (dCons (dPrim .len (dCons (dVar 1) dNil)) (dCons (dC (.int 1)) dNil))) dNil)))))) (dVar 3) [3])
    (sRet (dC (.bool false)))
    sPass)
    (sSeq (sIf (dPrim .eq (dCons (dPrim .ix (dCons (dVar 2) (dCons (dC (.int 0)) dNil))) (dCons (dC (.str "loop")) dNil)))
    (sRet (dAnd (dPrim .eq (dCons (dPrim .len (dCons (dVar 2) dNil)) (dCons (dC (.int 2)) dNil))) (dPrim .notN (dCons (dCall 23 (dCons (dVar 0) (dCons (dPrim .slH (dCons (dVar 1) (dCons (dPrim .add (dCons (dPrim .ix (dCons (dVar 2) (dCons (dC (.int 1)) dNil))) (dCons (dC (.int 1)) dNil))) dNil))) dNil))) dNil))))
    sPass)
    (sRet (dPrim .isin (dCons (dVar 2) (dCons (dPrim .add (dCons (dCall 22 (dCons (dVar 1) dNil)) (dCons (dCall 21 (dCons (dVar 0) (dCons (dVar 1) dNil))) dNil))) dNil))))))))
def b_written : Sx :=
  (sRet (dMeth .join isStr (dC (.str " ")) (dComp (iSeq (dVar 0)) (.tp [(.nm 1), (.nm 2)]) none (dFstr (dVar 1) "-" (dVar 2)) [1, 2])))
def b_format_list : Sx :=
  (sSeq (sExpr (dCall 5 (dCons (dVar 0) (dCons (dVar 1) dNil))))
    (sRet (dCall 25 (dCons (dVar 1) dNil))))
def b_chords_of : Sx :=
  (sSeq (sExpr (dCall 5 (dCons (dVar 0) (dCons (dVar 1) dNil))))
    (sRet (dPrim .tuple (dCons (dPrim .sortedT (dCons (dVar 1) dNil)) dNil))))
def b__law_cell : Sx :=
  (sSeq (sIf (dPrim .lt (dCons (dVar 1) (dCons (dPrim .len (dCons (dVar 0) dNil)) dNil)))
    (sRet (dPrim .ix (dCons (dVar 0) (dCons (dVar 1) dNil))))
    sPass)
    (sRet (dC (.int 0))))
def b__law_row : Sx :=
  (sSeq (sAsg 2 (dCall 28 (dCons (dVar 0) (dCons (dVar 1) dNil))))
    (sSeq (sAsg 3 (dPrim .lst dNil))
    (sSeq (sFor (iRng (dCons (dC (.int 60)) dNil)) (.nm 4)
    (sIf (dPrim .lt (dCons (dCall 28 (dCons (dVar 0) (dCons (dVar 1) dNil))) (dCons (dPrim .pow (dCons (dC (.int 10)) (dCons (dC (.int 18)) dNil))) dNil)))
    (sSeq (sAsg 2 (dPrim .mod (dCons (dPrim .add (dCons (dPrim .add (dCons (dPrim .add (dCons (dPrim .mul (dCons (dVar 2) (dCons (dC (.int 48271)) dNil))) (dCons (dPrim .mul (dCons (dC (.int 131)) (dCons (dVar 4) dNil))) dNil))) (dCons (dC (.int 7)) dNil))) (dCons (dCall 28 (dCons (dVar 0) (dCons (dPrim .mod (dCons (dPrim .add (dCons (dPrim .add (dCons (dVar 1) (dCons (dC (.int 1)) dNil))) (dCons (dVar 4) dNil))) (dCons (dC (.int 20)) dNil))) dNil))) dNil))) (dCons (dC (.int 2147483647)) dNil))))
    (sAppend 3 (dPrim .mod (dCons (dPrim .fdiv (dCons (dVar 2) (dCons (dC (.int 11)) dNil))) (dCons (dC (.int 1000)) dNil)))))
    (sSeq (sAppend 3 (dPrim .mod (dCons (dVar 2) (dCons (dC (.int 1000)) dNil))))
    (sAsg 2 (dPrim .fdiv (dCons (dVar 2) (dCons (dC (.int 1000)) dNil)))))))
    (sRet (dVar 3)))))
def b__law_pairs : Sx :=
  (sSeq (sAsg 1 (dPrim .lst dNil))
    (sSeq (sFor (iRng (dCons (dVar 0) dNil)) (.nm 2)
    (sAsg 1 (dPrim .add (dCons (dVar 1) (dCons (dComp (iRng (dCons (dPrim .add (dCons (dVar 2) (dCons (dC (.int 1)) dNil))) (dCons (dVar 0) dNil))) (.nm 3) none (dPrim .tup (dCons (dVar 2) (dCons (dVar 3) dNil))) [3]) dNil)))))
    (sRet (dVar 1))))
def b__law_to : Sx :=
  (sSeq (sIf (dPrim .eq (dCons (dVar 1) (dCons (dPrim .ix (dCons (dVar 0) (dCons (dC (.int 0)) dNil))) dNil)))
    (sRet (dPrim .ix (dCons (dVar 0) (dCons (dC (.int 1)) dNil))))
    sPass)
    (sRet (dIte (dPrim .eq (dCons (dVar 1) (dCons (dPrim .ix (dCons (dVar 0) (dCons (dC (.int 1)) dNil))) dNil))) (dPrim .ix (dCons (dVar 0) (dCons (dC (.int 0)) dNil))) (dVar 1))))
def b__law_round : Sx :=
  (sSeq (sAsg 3 (dCall 29 (dCons (dVar 0) (dCons (dVar 1) dNil))))
    (sSeq (sAsg 4 (dComp (iRng (dCons (dC (.int 1)) (dCons (dVar 2) dNil))) (.nm 9) none (dPrim .tup (dCons (dC (.int 0)) (dCons (dVar 9) dNil))) [9]))
    (sSeq (sFor (iRng (dCons (dIte (dPrim .gt (dCons (dVar 2) (dCons (dC (.int 2)) dNil))) (dC (.int 16)) (dC (.int 0))) dNil)) (.nm 5)
    (sSeq (sAsg 6 (dPrim .mod (dCons (dPrim .ix (dCons (dVar 3) (dCons (dVar 5) dNil))) (dCons (dPrim .sub (dCons (dVar 2) (dCons (dC (.int 2)) dNil))) dNil))))
    (sSeq (sAsgT (.tp [(.nm 7), (.nm 8)]) (dPrim .tup (dCons (dPrim .ix (dCons (dVar 4) (dCons (dVar 6) dNil))) (dCons (dPrim .ix (dCons (dVar 4) (dCons (dPrim .add (dCons (dVar 6) (dCons (dC (.int 1)) dNil))) dNil))) dNil))))
    (sIf (dPrim .eq (dCons (dPrim .mod (dCons (dPrim .ix (dCons (dVar 3) (dCons (dPrim .add (dCons (dC (.int 20)) (dCons (dVar 5) dNil))) dNil))) (dCons (dC (.int 2)) dNil))) (dCons (dC (.int 0)) dNil)))
    (sSeq (sSetIx 4 (dVar 6) (dVar 8))
    (sSetIx 4 (dPrim .add (dCons (dVar 6) (dCons (dC (.int 1)) dNil))) (dPrim .tuple (dCons (dPrim .sorted (dCons (dComp (iSeq (dVar 7)) (.nm 9) none (dCall 31 (dCons (dVar 8) (dCons (dVar 9) dNil))) [9]) dNil)) dNil))))
    (sSeq (sSetIx 4 (dVar 6) (dPrim .tuple (dCons (dPrim .sorted (dCons (dComp (iSeq (dVar 8)) (.nm 9) none (dCall 31 (dCons (dVar 7) (dCons (dVar 9) dNil))) [9]) dNil)) dNil)))
    (sSetIx 4 (dPrim .add (dCons (dVar 6) (dCons (dC (.int 1)) dNil))) (dVar 7)))))))
    (sRet (dPrim .tuple (dCons (dVar 4) dNil))))))
def b__law_list : Sx :=
  (sSeq (sAsg 3 (dCall 29 (dCons (dVar 0) (dCons (dVar 1) dNil))))
    (sSeq (sAsg 4 (dCall 30 (dCons (dVar 2) dNil)))
    (sSeq (sAsg 5 (dCall 32 (dCons (dVar 0) (dCons (dVar 1) (dCons (dVar 2) dNil)))))
    (sSeq (sIf (dPrim .eq (dCons (dPrim .mod (dCons (dPrim .ix (dCons (dVar 3) (dCons (dC (.int 50)) dNil))) (dCons (dC (.int 3)) dNil))) (dCons (dC (.int 0)) dNil)))
    (sRet (dVar 5))
    sPass)
    (sSeq (sIf (dPrim .eq (dCons (dPrim .mod (dCons (dPrim .ix (dCons (dVar 3) (dCons (dC (.int 50)) dNil))) (dCons (dC (.int 3)) dNil))) (dCons (dC (.int 1)) dNil)))
    (sSeq (sAsg 6 (dPrim .mod (dCons (dPrim .ix (dCons (dVar 3) (dCons (dC (.int 51)) dNil))) (dCons (dPrim .len (dCons (dVar 5) dNil)) dNil))))
    (sRet (dPrim .add (dCons (dPrim .add (dCons (dPrim .slH (dCons (dVar 5) (dCons (dVar 6) dNil))) (dCons (dPrim .tup (dCons (dPrim .ix (dCons (dVar 4) (dCons (dPrim .mod (dCons (dPrim .ix (dCons (dVar 3) (dCons (dC (.int 52)) dNil))) (dCons (dPrim .len (dCons (dVar 4) dNil)) dNil))) dNil))) dNil)) dNil))) (dCons (dPrim .slL (dCons (dVar 5) (dCons (dPrim .add (dCons (dVar 6) (dCons (dC (.int 1)) dNil))) dNil))) dNil)))))
    sPass)
    (sRet (dPrim .tuple (dCons (dComp (iRng (dCons (dPrim .sub (dCons (dVar 2) (dCons (dC (.int 1)) dNil))) dNil)) (.nm 6) none (dPrim .ix (dCons (dVar 4) (dCons (dPrim .mod (dCons (dPrim .ix (dCons (dVar 3) (dCons (dPrim .add (dCons (dC (.int 40)) (dCons (dVar 6) dNil))) dNil))) (dCons (dPrim .len (dCons (dVar 4) dNil)) dNil))) dNil))) [6]) dNil))))))))
def b__law_error : Sx :=
  (sSeq (sTry (sIf (dPrim .eq (dCons (dVar 0) (dCons (dC (.int 0)) dNil)))
    (sExpr (dCall 9 (dCons (dVar 1) (dCons (dVar 2) dNil))))
    (sIf (dPrim .eq (dCons (dVar 0) (dCons (dC (.int 1)) dNil)))
    (sExpr (dCall 13 (dCons (dVar 1) (dCons (dVar 2) (dCons (dC (.int 0)) dNil)))))
    (sIf (dPrim .eq (dCons (dVar 0) (dCons (dC (.int 2)) dNil)))
    (sExpr (dCall 11 (dCons (dVar 1) (dCons (dVar 2) dNil))))
    (sIf (dPrim .eq (dCons (dVar 0) (dCons (dC (.int 3)) dNil)))
    (sExpr (dCall 24 (dCons (dVar 1) (dCons (dVar 2) (dCons (dC .none) dNil)))))
    (sIf (dPrim .eq (dCons (dVar 0) (dCons (dC (.int 4)) dNil)))
    (sExpr (dCall 17 (dCons (dVar 1) (dCons (dVar 2) dNil))))
    (sIf (dPrim .eq (dCons (dVar 0) (dCons (dC (.int 5)) dNil)))
    (sExpr (dCall 18 (dCons (dVar 1) (dCons (dVar 2) dNil))))
    (sIf (dPrim .eq (dCons (dVar 0) (dCons (dC (.int 6)) dNil)))
    (sExpr (dCall 27 (dCons (dVar 1) (dCons (dVar 2) dNil))))
    (sExpr (dCall 26 (dCons (dVar 1) (dCons (dVar 2) dNil)))))))))))
    [(2, fun e => some (.str (if subX e.cls 0 && !subX e.cls 3 then "size" else "other"))), (3, fun e => some (.str (if subX e.cls 0 && !subX e.cls 2 then "list" else "other")))])
    (sRet (dC (.str "none"))))
def b_check_round : Sx :=
  (sSeq (sExpr (dCall 5 (dCons (dVar 0) (dCons (dVar 1) dNil))))
    (sIf (dNot (dCall 10 (dCons (dVar 0) (dCons (dVar 1) dNil))))
    (sRaise 7)
    sPass))
def b_remaining_groups : Sx :=
  (sSeq (sExpr (dCall 35 (dCons (dVar 0) (dCons (dVar 1) dNil))))
    (sSeq (sIf (dNot (dCall 1 (dCons (dVar 2) (dCons (dC (.int 0)) (dCons (dPrim .len (dCons (dVar 1) dNil)) dNil)))))
    (sRaise 4)
    sPass)
    (sRet (dPrim .sorted (dCons (dComp (iSeq (dCall 15 (dCons (dVar 0) (dCons (dPrim .slH (dCons (dVar 1) (dCons (dVar 2) dNil))) dNil)))) (.nm 3) none (dPrim .tuple (dCons (dPrim .sorted (dCons (dVar 3) dNil)) dNil)) [3]) dNil)))))
def b__law_result : Sx :=
  (sSeq (sAsg 2 (dPrim .list (dCons (dPrim .rng1 (dCons (dVar 0) dNil)) dNil)))
    (sSeq (sFor (iSeq (dVar 1)) (.nm 3)
    (sAsg 2 (dComp (iSeq (dVar 2)) (.nm 4) none (dCall 31 (dCons (dVar 3) (dCons (dVar 4) dNil))) [4])))
    (sRet (dPrim .tuple (dCons (dVar 2) dNil)))))
def b__law_is_round : Sx :=
  (sRet (dPrim .eq (dCons (dCall 37 (dCons (dVar 0) (dCons (dVar 1) dNil))) (dCons (dPrim .tuple (dCons (dComp (iRng (dCons (dVar 0) dNil)) (.nm 2) none (dPrim .mod (dCons (dPrim .add (dCons (dVar 2) (dCons (dC (.int 1)) dNil))) (dCons (dVar 0) dNil))) [2]) dNil)) dNil))))
def t__law_groups : Sx :=
  (sSeq (sAsg 3 (dPrim .list (dCons (dPrim .rng1 (dCons (dVar 0) dNil)) dNil)))
    (sSeq (sFor (iRng (dCons (dVar 0) dNil)) (.nm 4)
    (sFor (iRng (dCons (dVar 0) dNil)) (.nm 5)
    (sSeq (sAsg 6 (dPrim .min2 (dCons (dPrim .ix (dCons (dVar 3) (dCons (dVar 5) dNil))) (dCons (dPrim .ix (dCons (dVar 3) (dCons (dPrim .ix (dCons (dVar 2) (dCons (dVar 5) dNil))) dNil))) dNil))))
    (sSeq (sSetIx 3 (dVar 5) (dVar 6))
    (sSetIx 3 (dPrim .ix (dCons (dVar 2) (dCons (dVar 5) dNil))) (dVar 6))))))
    (sSeq (sAsg 7 (dPrim .lst dNil))
    (sSeq (sFor (iSeq (dPrim .sset (dCons (dVar 3) dNil))) (.nm 8)
    (sAppend 7 (dPrim .tuple (dCons (dComp (iRng (dCons (dVar 0) dNil)) (.nm 5) (some (dPrim .eq (dCons (dPrim .ix (dCons (dVar 3) (dCons (dVar 5) dNil))) (dCons (dVar 8) dNil)))) (dVar 5) [5]) dNil))))
    (sRet (dVar 7))))))
def b__law_groups : Sx := sSeq (sAsg 2 (dCall 37 (dCons (dVar 0) (dCons (dVar 1) dNil)))) t__law_groups
def b__law_grouped : Sx :=
  (sTry (sRet (dIte (dPrim .eq (dCons (dVar 0) (dCons (dC (.int 0)) dNil))) (dCall 13 (dCons (dVar 1) (dCons (dVar 2) (dCons (dVar 3) dNil)))) (dCall 36 (dCons (dVar 1) (dCons (dVar 2) (dCons (dVar 3) dNil))))))
    [(4, fun e => some (.str (if subX e.cls 0 && !subX e.cls 3 then "place" else "other"))), (7, fun e => some (.str (if subX e.cls 0 && !subX e.cls 4 then "not" else "other")))])
def b__law_between : Sx :=
  (sSeq (sIf (dPrim .isin (dCons (dVar 1) (dCons (dVar 0) dNil)))
    (sRet (dC (.int 0)))
    sPass)
    (sRet (dIte (dChain .lt .lt (dPrim .ix (dCons (dVar 0) (dCons (dC (.int 0)) dNil))) (dVar 1) (dPrim .ix (dCons (dVar 0) (dCons (dC (.int 1)) dNil)))) (dC (.int 1)) (dPrim .neg (dCons (dC (.int 1)) dNil)))))
def b__law_crossed : Sx :=
  (sRet (dPrim .eq (dCons (dPrim .sorted (dCons (dComp (iSeq (dVar 1)) (.nm 2) none (dCall 41 (dCons (dVar 0) (dCons (dVar 2) dNil))) [2]) dNil)) (dCons (dPrim .lst (dCons (dPrim .neg (dCons (dC (.int 1)) dNil)) (dCons (dC (.int 1)) dNil))) dNil))))
def b_first_fault : Sx :=
  (sSeq (sAsg 2 (dCall 23 (dCons (dVar 0) (dCons (dVar 1) dNil))))
    (sSeq (sIf (dPrim .notN (dCons (dVar 2) dNil))
    (sRet (dPrim .tup (dCons (dC (.str "loop")) (dCons (dVar 2) dNil))))
    sPass)
    (sSeq (sAsg 3 (dPrim .add (dCons (dCall 22 (dCons (dVar 1) dNil)) (dCons (dCall 21 (dCons (dVar 0) (dCons (dVar 1) dNil))) dNil))))
    (sRet (dIte (dVar 3) (dPrim .ix (dCons (dVar 3) (dCons (dC (.int 0)) dNil))) (dC .none))))))
def b_paper : Sx :=
  (sSeq (sExpr (dCall 5 (dCons (dVar 0) (dCons (dVar 1) dNil))))
    (sSeq (sAsg 2 (dCall 43 (dCons (dVar 0) (dCons (dVar 1) dNil))))
    (sSeq (sIf (dPrim .isN (dCons (dVar 2) dNil))
    (sRaise 8)
    sPass)
    (sRet (dVar 2)))))
def b__law_whole : Sx :=
  (sRet (dAnd (dPrim .isInt (dCons (dVar 0) dNil)) (dNot (dPrim .isBool (dCons (dVar 0) dNil)))))
def b__law_in : Sx :=
  (sRet (dAnd (dCall 45 (dCons (dVar 0) dNil)) (dChain .le .le (dVar 1) (dVar 0) (dVar 2))))
def b__law_loop : Sx :=
  (sSeq (sFor (iRng (dCons (dPrim .len (dCons (dVar 1) dNil)) dNil)) (.nm 2)
    (sSeq (sAsg 3 (dPrim .lst (dCons (dPrim .ix (dCons (dPrim .ix (dCons (dVar 1) (dCons (dVar 2) dNil))) (dCons (dC (.int 0)) dNil))) dNil)))
    (sSeq (sFor (iRng (dCons (dVar 2) dNil)) (.nm 4)
    (sFor (iSeq (dPrim .slH (dCons (dVar 1) (dCons (dVar 2) dNil)))) (.nm 5)
    (sIf (dPrim .ne (dCons (dPrim .isin (dCons (dPrim .ix (dCons (dVar 5) (dCons (dC (.int 0)) dNil))) (dCons (dVar 3) dNil))) (dCons (dPrim .isin (dCons (dPrim .ix (dCons (dVar 5) (dCons (dC (.int 1)) dNil))) (dCons (dVar 3) dNil))) dNil)))
    (sAsg 3 (dPrim .add (dCons (dVar 3) (dCons (dComp (iSeq (dVar 5)) (.nm 6) (some (dPrim .notin (dCons (dVar 6) (dCons (dVar 3) dNil)))) (dVar 6) [6]) dNil))))
    sPass)))
    (sIf (dPrim .isin (dCons (dPrim .ix (dCons (dPrim .ix (dCons (dVar 1) (dCons (dVar 2) dNil))) (dCons (dC (.int 1)) dNil))) (dCons (dVar 3) dNil)))
    (sRet (dVar 2))
    sPass))))
    (sRet (dC .none)))
def b__law_is_paper : Sx :=
  (sSeq (sIf (dOr (dNot (dPrim .isTuple (dCons (dVar 2) dNil))) (dOr (dPrim .eq (dCons (dVar 2) (dCons (dPrim .tup dNil) dNil))) (dPrim .notin (dCons (dPrim .ix (dCons (dVar 2) (dCons (dC (.int 0)) dNil))) (dCons (dPrim .tup (dCons (dC (.str "loop")) (dCons (dC (.str "cross")) (dCons (dC (.str "turn")) dNil)))) dNil)))))
    (sRet (dC (.bool false)))
    sPass)
    (sSeq (sIf (dPrim .ne (dCons (dComp (iSeq (dPrim .slL (dCons (dVar 2) (dCons (dC (.int 1)) dNil)))) (.nm 8) (some (dNot (dCall 46 (dCons (dVar 8) (dCons (dC (.int 0)) (dCons (dPrim .sub (dCons (dPrim .len (dCons (dVar 1) dNil)) (dCons (dC (.int 1)) dNil))) dNil)))))) (dVar 8) [8]) (dCons (dPrim .lst dNil) dNil)))
    (sRet (dC (.bool false)))
    sPass)
    (sSeq (sIf (dPrim .eq (dCons (dPrim .ix (dCons (dVar 2) (dCons (dC (.int 0)) dNil))) (dCons (dC (.str "loop")) dNil)))
    (sRet (dAnd (dPrim .eq (dCons (dPrim .len (dCons (dVar 2) dNil)) (dCons (dC (.int 2)) dNil))) (dPrim .notN (dCons (dCall 47 (dCons (dVar 0) (dCons (dPrim .slH (dCons (dVar 1) (dCons (dPrim .add (dCons (dPrim .ix (dCons (dVar 2) (dCons (dC (.int 1)) dNil))) (dCons (dC (.int 1)) dNil))) dNil))) dNil))) dNil))))
    sPass)
    (sSeq (sIf (dOr (dPrim .ne (dCons (dPrim .len (dCons (dVar 2) dNil)) (dCons (dC (.int 3)) dNil))) (dPrim .ge (dCons (dPrim .ix (dCons (dVar 2) (dCons (dC (.int 1)) dNil))) (dCons (dPrim .ix (dCons (dVar 2) (dCons (dC (.int 2)) dNil))) dNil))))
    (sRet (dC (.bool false)))
    sPass)
    (sSeq (sPar [3, 4] (dCons (dPrim .ix (dCons (dVar 1) (dCons (dPrim .ix (dCons (dVar 2) (dCons (dC (.int 1)) dNil))) dNil))) (dCons (dPrim .ix (dCons (dVar 1) (dCons (dPrim .ix (dCons (dVar 2) (dCons (dC (.int 2)) dNil))) dNil))) dNil)))
    (sSeq (sIf (dPrim .eq (dCons (dPrim .ix (dCons (dVar 2) (dCons (dC (.int 0)) dNil))) (dCons (dC (.str "cross")) dNil)))
    (sRet (dCall 42 (dCons (dVar 3) (dCons (dVar 4) dNil))))
    sPass)
    (sSeq (sFor (iSeq (dVar 3)) (.nm 5)
    (sIf (dPrim .isin (dCons (dVar 5) (dCons (dVar 4) dNil)))
    (sSeq (sAsg 6 (dPrim .mod (dCons (dPrim .sub (dCons (dPrim .add (dCons (dPrim .ix (dCons (dVar 3) (dCons (dC (.int 0)) dNil))) (dCons (dPrim .ix (dCons (dVar 3) (dCons (dC (.int 1)) dNil))) dNil))) (dCons (dPrim .mul (dCons (dC (.int 2)) (dCons (dVar 5) dNil))) dNil))) (dCons (dVar 0) dNil))))
    (sSeq (sAsg 7 (dPrim .mod (dCons (dPrim .sub (dCons (dPrim .add (dCons (dPrim .ix (dCons (dVar 4) (dCons (dC (.int 0)) dNil))) (dCons (dPrim .ix (dCons (dVar 4) (dCons (dC (.int 1)) dNil))) dNil))) (dCons (dPrim .mul (dCons (dC (.int 2)) (dCons (dVar 5) dNil))) dNil))) (dCons (dVar 0) dNil))))
    (sIf (dPrim .le (dCons (dVar 7) (dCons (dVar 6) dNil)))
    (sRet (dC (.bool true)))
    sPass)))
    sPass))
    (sRet (dC (.bool false))))))))))
def b__law_paper : Sx :=
  (sTry (sRet (dCall 44 (dCons (dVar 0) (dCons (dVar 1) dNil))))
    [(8, fun e => some (.str (if subX e.cls 0 && !subX e.cls 7 then "round" else "other")))])
def b_through : Sx :=
  (sRet (dPrim .tuple (dCons (dPrim .sorted (dCons (dComp (iSeq (dVar 1)) (.nm 2) none (dCall 7 (dCons (dVar 0) (dCons (dVar 2) dNil))) [2]) dNil)) dNil)))
def b_check_number : Sx :=
  (sIf (dNot (dCall 1 (dCons (dVar 1) (dCons (dC (.int 0)) (dCons (dPrim .sub (dCons (dPrim .len (dCons (dVar 0) dNil)) (dCons (dC (.int 2)) dNil))) dNil)))))
    (sRaise 4)
    sPass)
def b_later_of : Sx :=
  (sSeq (sPar [2, 3] (dCons (dPrim .ix (dCons (dVar 0) (dCons (dVar 1) dNil))) (dCons (dPrim .ix (dCons (dVar 0) (dCons (dPrim .add (dCons (dVar 1) (dCons (dC (.int 1)) dNil))) dNil))) dNil)))
    (sRet (dPrim .add (dCons (dPrim .add (dCons (dPrim .slH (dCons (dVar 0) (dCons (dVar 1) dNil))) (dCons (dPrim .tup (dCons (dVar 3) (dCons (dCall 50 (dCons (dVar 3) (dCons (dVar 2) dNil))) dNil))) dNil))) (dCons (dPrim .slL (dCons (dVar 0) (dCons (dPrim .add (dCons (dVar 1) (dCons (dC (.int 2)) dNil))) dNil))) dNil)))))
def b_earlier_of : Sx :=
  (sSeq (sPar [2, 3] (dCons (dPrim .ix (dCons (dVar 0) (dCons (dVar 1) dNil))) (dCons (dPrim .ix (dCons (dVar 0) (dCons (dPrim .add (dCons (dVar 1) (dCons (dC (.int 1)) dNil))) dNil))) dNil)))
    (sRet (dPrim .add (dCons (dPrim .add (dCons (dPrim .slH (dCons (dVar 0) (dCons (dVar 1) dNil))) (dCons (dPrim .tup (dCons (dCall 50 (dCons (dVar 2) (dCons (dVar 3) dNil))) (dCons (dVar 2) dNil))) dNil))) (dCons (dPrim .slL (dCons (dVar 0) (dCons (dPrim .add (dCons (dVar 1) (dCons (dC (.int 2)) dNil))) dNil))) dNil)))))
def b_move_later : Sx :=
  (sSeq (sExpr (dCall 5 (dCons (dVar 0) (dCons (dVar 1) dNil))))
    (sSeq (sExpr (dCall 51 (dCons (dVar 1) (dCons (dVar 2) dNil))))
    (sRet (dCall 52 (dCons (dVar 1) (dCons (dVar 2) dNil))))))
def b_move_earlier : Sx :=
  (sSeq (sExpr (dCall 5 (dCons (dVar 0) (dCons (dVar 1) dNil))))
    (sSeq (sExpr (dCall 51 (dCons (dVar 1) (dCons (dVar 2) dNil))))
    (sRet (dCall 53 (dCons (dVar 1) (dCons (dVar 2) dNil))))))
def b_turned : Sx :=
  (sSeq (sExpr (dCall 35 (dCons (dVar 0) (dCons (dVar 1) dNil))))
    (sSeq (sIf (dNot (dCall 1 (dCons (dVar 2) (dCons (dC (.int 0)) (dCons (dPrim .sub (dCons (dVar 0) (dCons (dC (.int 1)) dNil))) dNil)))))
    (sRaise 4)
    sPass)
    (sRet (dPrim .tuple (dCons (dComp (iSeq (dVar 1)) (.nm 3) none (dPrim .tuple (dCons (dPrim .sorted (dCons (dComp (iSeq (dVar 3)) (.nm 4) none (dPrim .mod (dCons (dPrim .add (dCons (dVar 4) (dCons (dVar 2) dNil))) (dCons (dVar 0) dNil))) [4]) dNil)) dNil)) [3]) dNil)))))
def b_rolled : Sx :=
  (sSeq (sExpr (dCall 35 (dCons (dVar 0) (dCons (dVar 1) dNil))))
    (sRet (dPrim .add (dCons (dPrim .slL (dCons (dVar 1) (dCons (dC (.int 1)) dNil))) (dCons (dPrim .tup (dCons (dPrim .tuple (dCons (dPrim .sorted (dCons (dComp (iSeq (dPrim .ix (dCons (dVar 1) (dCons (dC (.int 0)) dNil)))) (.nm 2) none (dPrim .mod (dCons (dPrim .add (dCons (dVar 2) (dCons (dC (.int 1)) dNil))) (dCons (dVar 0) dNil))) [2]) dNil)) dNil)) dNil)) dNil)))))
def b__law_shifted : Sx :=
  (sTry (sSeq (sIf (dPrim .eq (dCons (dVar 0) (dCons (dC (.int 0)) dNil)))
    (sRet (dCall 54 (dCons (dVar 1) (dCons (dVar 2) (dCons (dVar 3) dNil)))))
    sPass)
    (sSeq (sIf (dPrim .eq (dCons (dVar 0) (dCons (dC (.int 1)) dNil)))
    (sRet (dCall 55 (dCons (dVar 1) (dCons (dVar 2) (dCons (dVar 3) dNil)))))
    sPass)
    (sRet (dIte (dPrim .eq (dCons (dVar 0) (dCons (dC (.int 2)) dNil))) (dCall 56 (dCons (dVar 1) (dCons (dVar 2) (dCons (dVar 3) dNil)))) (dCall 57 (dCons (dVar 1) (dCons (dVar 2) dNil)))))))
    [(4, fun e => some (.str (if subX e.cls 0 && !subX e.cls 3 then "place" else "other"))), (7, fun e => some (.str (if subX e.cls 0 && !subX e.cls 8 then "not" else "other")))])
def b_road : Sx :=
  (sSeq (sExpr (dCall 35 (dCons (dVar 0) (dCons (dVar 1) dNil))))
    (sSeq (sExpr (dCall 35 (dCons (dVar 0) (dCons (dVar 2) dNil))))
    (sSeq (sAsg 3 (dDct 1))
    (sSeq (sAsg 4 (dPrim .lst (dCons (dVar 1) dNil)))
    (sSeq (sWhile 1000 (dNinD (dVar 2) (dVar 3))
    (sSeq (sPop0 5 4)
    (sFor (iRng (dCons (dPrim .sub (dCons (dVar 0) (dCons (dC (.int 2)) dNil))) dNil)) (.nm 6)
    (sFor (iSeq (dPrim .tup (dCons (dCall 52 (dCons (dVar 5) (dCons (dVar 6) dNil))) (dCons (dCall 53 (dCons (dVar 5) (dCons (dVar 6) dNil))) dNil)))) (.nm 7)
    (sIf (dNinD (dVar 7) (dVar 3))
    (sSeq (sSetD 3 (dVar 7) (dVar 5))
    (sAppend 4 (dVar 7)))
    sPass)))))
    (sSeq (sAsg 8 (dPrim .lst (dCons (dVar 2) dNil)))
    (sSeq (sWhile 1000 (dPrim .notN (dCons (dGetD (dVar 3) (dPrim .ix (dCons (dVar 8) (dCons (dPrim .neg (dCons (dC (.int 1)) dNil)) dNil)))) dNil))
    (sAppend 8 (dGetD (dVar 3) (dPrim .ix (dCons (dVar 8) (dCons (dPrim .neg (dCons (dC (.int 1)) dNil)) dNil))))))
    (sRet (dPrim .rev (dCons (dVar 8) dNil))))))))))
def b__law_road : Sx :=
  (sTry (sRet (dCall 59 (dCons (dVar 0) (dCons (dVar 1) (dCons (dVar 2) dNil)))))
    [(7, fun e => some (.str (if subX e.cls 0 && !subX e.cls 3 then "not" else "other")))])
def b_complete : Sx :=
  (sSeq (sExpr (dCall 6 (dCons (dVar 0) (dCons (dVar 1) dNil))))
    (sSeq (sIf (dPrim .eq (dCons (dCall 16 (dCons (dVar 0) (dCons (dVar 1) dNil))) (dCons (dC (.int 0)) dNil)))
    (sRaise 9)
    sPass)
    (sSeq (sAsg 2 (dVar 1))
    (sSeq (sWhile 1000 (dPrim .lt (dCons (dPrim .len (dCons (dVar 2) dNil)) (dCons (dPrim .sub (dCons (dVar 0) (dCons (dC (.int 1)) dNil))) dNil)))
    (sAsg 2 (dPrim .add (dCons (dVar 2) (dCons (dPrim .tup (dCons (dPrim .ix (dCons (dCall 18 (dCons (dVar 0) (dCons (dVar 2) dNil))) (dCons (dC (.int 0)) dNil))) dNil)) dNil)))))
    (sRet (dVar 2))))))
def b__law_all : Sx :=
  (sSeq (sAsg 2 (dPrim .lst (dCons (dVar 1) dNil)))
    (sSeq (sFor (iRng (dCons (dPrim .sub (dCons (dPrim .sub (dCons (dVar 0) (dCons (dC (.int 1)) dNil))) (dCons (dPrim .len (dCons (dVar 1) dNil)) dNil))) dNil)) (.nm 3)
    (sSeq (sAsg 4 (dPrim .lst dNil))
    (sSeq (sFor (iSeq (dVar 2)) (.nm 5)
    (sAsg 4 (dPrim .add (dCons (dVar 4) (dCons (dComp (iSeq (dCall 30 (dCons (dVar 0) dNil))) (.nm 6) (some (dPrim .isN (dCons (dCall 47 (dCons (dVar 0) (dCons (dPrim .add (dCons (dVar 5) (dCons (dPrim .tup (dCons (dVar 6) dNil)) dNil))) dNil))) dNil))) (dPrim .add (dCons (dVar 5) (dCons (dPrim .tup (dCons (dVar 6) dNil)) dNil))) [6]) dNil)))))
    (sAsg 2 (dVar 4)))))
    (sRet (dComp (iSeq (dVar 2)) (.nm 5) (some (dCall 38 (dCons (dVar 0) (dCons (dVar 5) dNil)))) (dVar 5) [5]))))
def b__law_completed : Sx :=
  (sTry (sRet (dCall 61 (dCons (dVar 0) (dCons (dVar 1) dNil))))
    [(9, fun e => some (.str (if subX e.cls 0 && !subX e.cls 7 then "cannot" else "other")))])
def b_count_lists : Sx :=
  (sSeq (sExpr (dCall 2 (dCons (dVar 0) dNil)))
    (sRet (dCall 16 (dCons (dVar 0) (dCons (dPrim .tup dNil) dNil)))))
def b_lists_from : Sx :=
  (sSeq (sIf (dPrim .eq (dCons (dPrim .len (dCons (dVar 1) dNil)) (dCons (dPrim .sub (dCons (dVar 0) (dCons (dC (.int 1)) dNil))) dNil)))
    (sRet (dIte (dPrim .gt (dCons (dCall 16 (dCons (dVar 0) (dCons (dVar 1) dNil))) (dCons (dC (.int 0)) dNil))) (dPrim .lst (dCons (dVar 1) dNil)) (dPrim .lst dNil)))
    sPass)
    (sSeq (sAsg 2 (dPrim .lst dNil))
    (sSeq (sFor (iSeq (dCall 14 (dCons (dVar 0) dNil))) (.nm 3)
    (sIf (dPrim .gt (dCons (dCall 16 (dCons (dVar 0) (dCons (dPrim .add (dCons (dVar 1) (dCons (dPrim .tup (dCons (dVar 3) dNil)) dNil))) dNil))) (dCons (dC (.int 0)) dNil)))
    (sExtend 2 (dCall 65 (dCons (dVar 0) (dCons (dPrim .add (dCons (dVar 1) (dCons (dPrim .tup (dCons (dVar 3) dNil)) dNil))) dNil))))
    sPass))
    (sRet (dVar 2)))))
def b_all_lists : Sx :=
  (sSeq (sExpr (dCall 2 (dCons (dVar 0) dNil)))
    (sRet (dCall 65 (dCons (dVar 0) (dCons (dPrim .tup dNil) dNil)))))
def b_is_plain_tree : Sx :=
  (sSeq (sIf (dOr (dPrim .ne (dCons (dPrim .len (dCons (dVar 1) dNil)) (dCons (dPrim .sub (dCons (dVar 0) (dCons (dC (.int 1)) dNil))) dNil))) (dPrim .notN (dCons (dCall 23 (dCons (dVar 0) (dCons (dVar 1) dNil))) dNil)))
    (sRet (dC (.bool false)))
    sPass)
    (sSeq (sFor (iEnum (dVar 1)) (.tp [(.nm 2), (.nm 3)])
    (sIf (dComp (iSeq (dPrim .slL (dCons (dVar 1) (dCons (dPrim .add (dCons (dVar 2) (dCons (dC (.int 1)) dNil))) dNil)))) (.nm 4) (some (dCall 19 (dCons (dVar 3) (dCons (dVar 4) dNil)))) (dVar 4) [4])
    (sRet (dC (.bool false)))
    sPass))
    (sRet (dC (.bool true)))))
def b_is_tree : Sx :=
  (sSeq (sExpr (dCall 2 (dCons (dVar 0) dNil)))
    (sSeq (sIf (dNot (dCall 4 (dCons (dVar 0) (dCons (dVar 1) (dCons (dPrim .sub (dCons (dVar 0) (dCons (dC (.int 1)) dNil))) dNil)))))
    (sRet (dC (.bool false)))
    sPass)
    (sSeq (sIf (dComp (iZip (dCons (dVar 1) (dCons (dPrim .slL (dCons (dVar 1) (dCons (dC (.int 1)) dNil))) dNil))) (.tp [(.nm 2), (.nm 3)]) (some (dGeT (dVar 2) (dVar 3))) (dC (.int 1)) [2, 3])
    (sRet (dC (.bool false)))
    sPass)
    (sRet (dCall 67 (dCons (dVar 0) (dCons (dVar 1) dNil)))))))
def b_earlier_chords : Sx :=
  (sSeq (sAsg 3 (dPrim .lst dNil))
    (sSeq (sFor (iSeq (dVar 1)) (.nm 4)
    (sSeq (sAsg 5 (dComp (iSeq (dVar 2)) (.nm 6) (some (dPrim .isin (dCons (dVar 6) (dCons (dVar 4) dNil)))) (dVar 6) [6]))
    (sIf (dAnd (dPrim .ne (dCons (dVar 4) (dCons (dVar 2) dNil))) (dComp (iSeq (dVar 5)) (.nm 6) (some (dPrim .lt (dCons (dCall 20 (dCons (dVar 0) (dCons (dVar 4) (dCons (dVar 6) dNil)))) (dCons (dCall 20 (dCons (dVar 0) (dCons (dVar 2) (dCons (dVar 6) dNil)))) dNil)))) (dVar 6) [6]))
    (sAppend 3 (dVar 4))
    sPass)))
    (sRet (dVar 3))))
def b_check_tree : Sx :=
  (sIf (dNot (dCall 68 (dCons (dVar 0) (dCons (dVar 1) dNil))))
    (sRaise 5)
    sPass)
def b_orders_of : Sx :=
  (sSeq (sIf (dPrim .eq (dCons (dPrim .len (dCons (dVar 2) dNil)) (dCons (dPrim .len (dCons (dVar 1) dNil)) dNil)))
    (sRet (dPrim .lst (dCons (dVar 2) dNil)))
    sPass)
    (sSeq (sAsg 3 (dPrim .lst dNil))
    (sSeq (sFor (iSeq (dVar 1)) (.nm 4)
    (sIf (dAnd (dPrim .notin (dCons (dVar 4) (dCons (dVar 2) dNil))) (dNot (dComp (iSeq (dCall 69 (dCons (dVar 0) (dCons (dVar 1) (dCons (dVar 4) dNil))))) (.nm 5) (some (dPrim .notin (dCons (dVar 5) (dCons (dVar 2) dNil)))) (dVar 5) [5])))
    (sExtend 3 (dCall 71 (dCons (dVar 0) (dCons (dVar 1) (dCons (dPrim .add (dCons (dVar 2) (dCons (dPrim .tup (dCons (dVar 4) dNil)) dNil))) dNil)))))
    sPass))
    (sRet (dVar 3)))))
def b_lists_of : Sx :=
  (sSeq (sExpr (dCall 70 (dCons (dVar 0) (dCons (dVar 1) dNil))))
    (sRet (dCall 71 (dCons (dVar 0) (dCons (dVar 1) (dCons (dPrim .tup dNil) dNil))))))
def b__law_treed : Sx :=
  (sTry (sRet (dCall 72 (dCons (dVar 0) (dCons (dVar 1) dNil))))
    [(5, fun e => some (.str (if subX e.cls 0 && !subX e.cls 3 then "tree" else "other")))])
def b__law_is_tree : Sx :=
  (sSeq (sIf (dOr (dNot (dPrim .isTuple (dCons (dVar 1) dNil))) (dPrim .ne (dCons (dPrim .len (dCons (dVar 1) dNil)) (dCons (dPrim .sub (dCons (dVar 0) (dCons (dC (.int 1)) dNil))) dNil))))
    (sRet (dC (.bool false)))
    sPass)
    (sSeq (sFor (iSeq (dVar 1)) (.nm 2)
    (sSeq (sIf (dOr (dNot (dPrim .isTuple (dCons (dVar 2) dNil))) (dOr (dPrim .ne (dCons (dPrim .len (dCons (dVar 2) dNil)) (dCons (dC (.int 2)) dNil))) (dNot (dCall 46 (dCons (dPrim .ix (dCons (dVar 2) (dCons (dC (.int 0)) dNil))) (dCons (dC (.int 0)) (dCons (dPrim .sub (dCons (dVar 0) (dCons (dC (.int 1)) dNil))) dNil)))))))
    (sRet (dC (.bool false)))
    sPass)
    (sIf (dNot (dCall 46 (dCons (dPrim .ix (dCons (dVar 2) (dCons (dC (.int 1)) dNil))) (dCons (dPrim .add (dCons (dPrim .ix (dCons (dVar 2) (dCons (dC (.int 0)) dNil))) (dCons (dC (.int 1)) dNil))) (dCons (dPrim .sub (dCons (dVar 0) (dCons (dC (.int 1)) dNil))) dNil)))))
    (sRet (dC (.bool false)))
    sPass)))
    (sSeq (sIf (dOr (dPrim .ne (dCons (dPrim .list (dCons (dVar 1) dNil)) (dCons (dSst (dVar 1)) dNil))) (dPrim .notN (dCons (dCall 47 (dCons (dVar 0) (dCons (dVar 1) dNil))) dNil)))
    (sRet (dC (.bool false)))
    sPass)
    (sSeq (sFor (iSeq (dVar 1)) (.nm 2)
    (sIf (dPrim .ne (dCons (dComp (iSeq (dVar 1)) (.nm 3) (some (dCall 42 (dCons (dVar 2) (dCons (dVar 3) dNil)))) (dVar 3) [3]) (dCons (dPrim .lst dNil) dNil)))
    (sRet (dC (.bool false)))
    sPass))
    (sRet (dC (.bool true)))))))
def b__law_orders : Sx :=
  (sSeq (sAsg 1 (dPrim .lst (dCons (dPrim .tup dNil) dNil)))
    (sSeq (sFor (iRng (dCons (dPrim .len (dCons (dVar 0) dNil)) dNil)) (.nm 2)
    (sSeq (sAsg 3 (dPrim .lst dNil))
    (sSeq (sFor (iSeq (dVar 1)) (.nm 4)
    (sAsg 3 (dPrim .add (dCons (dVar 3) (dCons (dComp (iSeq (dVar 0)) (.nm 5) (some (dPrim .notin (dCons (dVar 5) (dCons (dVar 4) dNil)))) (dPrim .add (dCons (dVar 4) (dCons (dPrim .tup (dCons (dVar 5) dNil)) dNil))) [5]) dNil)))))
    (sAsg 1 (dVar 3)))))
    (sRet (dPrim .sorted (dCons (dVar 1) dNil)))))
def b_trees_from : Sx :=
  (sSeq (sIf (dPrim .eq (dCons (dPrim .len (dCons (dVar 1) dNil)) (dCons (dPrim .sub (dCons (dVar 0) (dCons (dC (.int 1)) dNil))) dNil)))
    (sRet (dPrim .lst (dCons (dVar 1) dNil)))
    sPass)
    (sSeq (sAsg 3 (dPrim .lst dNil))
    (sSeq (sFor (iEnum (dVar 2)) (.tp [(.nm 4), (.nm 5)])
    (sSeq (sAsg 6 (dNot (dComp (iSeq (dVar 1)) (.nm 7) (some (dCall 19 (dCons (dVar 7) (dCons (dVar 5) dNil)))) (dVar 7) [7])))
    (sIf (dAnd (dVar 6) (dPrim .isN (dCons (dCall 23 (dCons (dVar 0) (dCons (dPrim .add (dCons (dVar 1) (dCons (dPrim .tup (dCons (dVar 5) dNil)) dNil))) dNil))) dNil)))
    (sExtend 3 (dCall 76 (dCons (dVar 0) (dCons (dPrim .add (dCons (dVar 1) (dCons (dPrim .tup (dCons (dVar 5) dNil)) dNil))) (dCons (dPrim .slL (dCons (dVar 2) (dCons (dPrim .add (dCons (dVar 4) (dCons (dC (.int 1)) dNil))) dNil))) dNil)))))
    sPass)))
    (sRet (dVar 3)))))
def b_all_trees : Sx :=
  (sSeq (sExpr (dCall 2 (dCons (dVar 0) dNil)))
    (sRet (dCall 76 (dCons (dVar 0) (dCons (dPrim .tup dNil) (dCons (dCall 14 (dCons (dVar 0) dNil)) dNil))))))
def b_least_places : Sx :=
  (sSeq (sExpr (dCall 35 (dCons (dVar 0) (dCons (dVar 1) dNil))))
    (sRet (dPrim .tuple (dCons (dComp (iSeq (dVar 1)) (.tp [(.nm 2), (.nm 3)]) none (dVar 2) [2, 3]) dNil))))
def b_are_places : Sx :=
  (sSeq (sIf (dOr (dNot (dPrim .isTuple (dCons (dVar 1) dNil))) (dPrim .ne (dCons (dPrim .len (dCons (dVar 1) dNil)) (dCons (dPrim .sub (dCons (dVar 0) (dCons (dC (.int 1)) dNil))) dNil))))
    (sRet (dC (.bool false)))
    sPass)
    (sRet (dNot (dComp (iSeq (dVar 1)) (.nm 2) (some (dNot (dCall 1 (dCons (dVar 2) (dCons (dC (.int 0)) (dCons (dPrim .sub (dCons (dVar 0) (dCons (dC (.int 1)) dNil))) dNil)))))) (dVar 2) [2]))))
def b_fitting : Sx :=
  (sSeq (sIf (dNot (dVar 2))
    (sRet (dIte (dPrim .gt (dCons (dCall 16 (dCons (dVar 0) (dCons (dVar 1) dNil))) (dCons (dC (.int 0)) dNil))) (dVar 1) (dC .none)))
    sPass)
    (sSeq (sFor (iSeq (dCall 14 (dCons (dVar 0) dNil))) (.nm 3)
    (sIf (dAnd (dPrim .eq (dCons (dPrim .ix (dCons (dVar 3) (dCons (dC (.int 0)) dNil))) (dCons (dPrim .ix (dCons (dVar 2) (dCons (dC (.int 0)) dNil))) dNil))) (dPrim .gt (dCons (dCall 16 (dCons (dVar 0) (dCons (dPrim .add (dCons (dVar 1) (dCons (dPrim .tup (dCons (dVar 3) dNil)) dNil))) dNil))) (dCons (dC (.int 0)) dNil))))
    (sSeq (sAsg 4 (dCall 80 (dCons (dVar 0) (dCons (dPrim .add (dCons (dVar 1) (dCons (dPrim .tup (dCons (dVar 3) dNil)) dNil))) (dCons (dPrim .slL (dCons (dVar 2) (dCons (dC (.int 1)) dNil))) dNil)))))
    (sIf (dPrim .notN (dCons (dVar 4) dNil))
    (sRet (dVar 4))
    sPass))
    sPass))
    (sRet (dC .none))))
def b_from_places : Sx :=
  (sSeq (sExpr (dCall 2 (dCons (dVar 0) dNil)))
    (sSeq (sIf (dNot (dCall 79 (dCons (dVar 0) (dCons (dVar 1) dNil))))
    (sRaise 4)
    sPass)
    (sSeq (sAsg 2 (dCall 80 (dCons (dVar 0) (dCons (dPrim .tup dNil) (dCons (dVar 1) dNil)))))
    (sSeq (sIf (dPrim .isN (dCons (dVar 2) dNil))
    (sRaise 9)
    sPass)
    (sRet (dVar 2))))))
def b__law_placed : Sx :=
  (sTry (sRet (dIte (dPrim .eq (dCons (dVar 0) (dCons (dC (.int 0)) dNil))) (dCall 78 (dCons (dVar 1) (dCons (dVar 2) dNil))) (dCall 81 (dCons (dVar 1) (dCons (dVar 2) dNil)))))
    [(9, fun e => some (.str (if subX e.cls 0 && !subX e.cls 7 then "cannot" else "other"))), (4, fun e => some (.str (if subX e.cls 0 && !subX e.cls 9 then "place" else "other"))), (7, fun e => some (.str (if subX e.cls 0 && !subX e.cls 9 then "not" else "other")))])
def b_place_after : Sx :=
  (sSeq (sAsg 3 (dVar 2))
    (sSeq (sFor (iSeq (dPrim .slH (dCons (dVar 0) (dCons (dVar 1) dNil)))) (.nm 4)
    (sAsg 3 (dCall 7 (dCons (dVar 4) (dCons (dVar 3) dNil)))))
    (sRet (dVar 3))))
def b_check_answers : Sx :=
  (sSeq (sIf (dNot (dCall 1 (dCons (dVar 0) (dCons (dC (.int 2)) (dCons (dC (.int 5)) dNil)))))
    (sRaise 2)
    sPass)
    (sSeq (sIf (dNot (dPrim .isTuple (dCons (dVar 1) dNil)))
    (sRaise 6)
    sPass)
    (sFor (iSeq (dVar 1)) (.nm 2)
    (sSeq (sIf (dOr (dNot (dPrim .isTuple (dCons (dVar 2) dNil))) (dPrim .ne (dCons (dPrim .len (dCons (dVar 2) dNil)) (dCons (dC (.int 3)) dNil))))
    (sRaise 6)
    sPass)
    (sIf (dComp (iSeq (dVar 2)) (.nm 3) (some (dNot (dCall 1 (dCons (dVar 3) (dCons (dC (.int 0)) (dCons (dPrim .sub (dCons (dVar 0) (dCons (dC (.int 1)) dNil))) dNil)))))) (dVar 3) [3])
    (sRaise 6)
    sPass)))))
def b_candidates : Sx :=
  (sSeq (sExpr (dCall 84 (dCons (dVar 0) (dCons (dVar 1) dNil))))
    (sSeq (sAsg 2 (dPrim .lst dNil))
    (sSeq (sFor (iSeq (dCall 65 (dCons (dVar 0) (dCons (dPrim .tup dNil) dNil)))) (.nm 3)
    (sIf (dNot (dComp (iSeq (dVar 1)) (.tp [(.nm 4), (.nm 5), (.nm 6)]) (some (dPrim .ne (dCons (dCall 83 (dCons (dVar 3) (dCons (dVar 4) (dCons (dVar 5) dNil)))) (dCons (dVar 6) dNil)))) (dVar 4) [4, 5, 6]))
    (sAppend 2 (dVar 3))
    sPass))
    (sRet (dVar 2)))))
def b_best_question : Sx :=
  (sSeq (sAsg 2 (dCall 85 (dCons (dVar 0) (dCons (dVar 1) dNil))))
    (sSeq (sIf (dNot (dVar 2))
    (sRaise 6)
    sPass)
    (sSeq (sAsg 3 (dC .none))
    (sSeq (sFor (iRng (dCons (dC (.int 1)) (dCons (dPrim .sub (dCons (dVar 0) (dCons (dC (.int 1)) dNil))) dNil))) (.nm 4)
    (sFor (iRng (dCons (dVar 0) dNil)) (.nm 5)
    (sSeq (sAsg 6 (dComp (iSeq (dVar 2)) (.nm 8) none (dCall 83 (dCons (dVar 8) (dCons (dVar 4) (dCons (dVar 5) dNil)))) [8]))
    (sSeq (sAsg 7 (dPrim .max1 (dCons (dComp (iSeq (dVar 6)) (.nm 9) none (dMeth .count isLst (dVar 6) (dVar 9)) [9]) dNil)))
    (sIf (dAnd (dPrim .lt (dCons (dVar 7) (dCons (dPrim .len (dCons (dVar 2) dNil)) dNil))) (dOr (dPrim .isN (dCons (dVar 3) dNil)) (dPrim .lt (dCons (dVar 7) (dCons (dPrim .ix (dCons (dVar 3) (dCons (dC (.int 0)) dNil))) dNil)))))
    (sAsg 3 (dPrim .tup (dCons (dVar 7) (dCons (dPrim .tup (dCons (dVar 4) (dCons (dVar 5) dNil))) dNil))))
    sPass)))))
    (sRet (dIte (dPrim .isN (dCons (dVar 3) dNil)) (dC .none) (dPrim .ix (dCons (dVar 3) (dCons (dC (.int 1)) dNil)))))))))
def b__law_hidden : Sx :=
  (sTry (sRet (dIte (dPrim .eq (dCons (dVar 0) (dCons (dC (.int 0)) dNil))) (dCall 85 (dCons (dVar 1) (dCons (dVar 2) dNil))) (dCall 86 (dCons (dVar 1) (dCons (dVar 2) dNil)))))
    [(2, fun e => some (.str (if subX e.cls 0 && !subX e.cls 6 then "size" else "other"))), (6, fun e => some (.str (if subX e.cls 0 && !subX e.cls 2 then "answers" else "other")))])
def b_parse_list : Sx :=
  (sSeq (sIf (dNot (dPrim .isStr (dCons (dVar 0) dNil)))
    (sRaiseL (dC .none))
    sPass)
    (sSeq (sAsg 1 (dPrim .lst dNil))
    (sSeq (sFor (iEnum (dSpl (dVar 0) (dC (.str " ")))) (.tp [(.nm 2), (.nm 3)])
    (sSeq (sIf (dOr (dPrim .ne (dCons (dPrim .len (dCons (dVar 3) dNil)) (dCons (dC (.int 3)) dNil))) (dOr (dPrim .ne (dCons (dPrim .ix (dCons (dVar 3) (dCons (dC (.int 1)) dNil))) (dCons (dC (.str "-")) dNil))) (dOr (dPrim .notin (dCons (dPrim .ix (dCons (dVar 3) (dCons (dC (.int 0)) dNil))) (dCons (dC (.str "0123456789")) dNil))) (dPrim .notin (dCons (dPrim .ix (dCons (dVar 3) (dCons (dC (.int 2)) dNil))) (dCons (dC (.str "0123456789")) dNil))))))
    (sRaiseL (dVar 2))
    sPass)
    (sAppend 1 (dPrim .tup (dCons (dSix (dC (.str "0123456789")) (dPrim .ix (dCons (dVar 3) (dCons (dC (.int 0)) dNil)))) (dCons (dSix (dC (.str "0123456789")) (dPrim .ix (dCons (dVar 3) (dCons (dC (.int 2)) dNil)))) dNil))))))
    (sSeq (sAsg 4 (dPrim .add (dCons (dPrim .len (dCons (dVar 1) dNil)) (dCons (dC (.int 1)) dNil))))
    (sSeq (sIf (dOr (dPrim .gt (dCons (dVar 4) (dCons (dC (.int 6)) dNil))) (dNot (dCall 4 (dCons (dVar 4) (dCons (dPrim .tuple (dCons (dVar 1) dNil)) (dCons (dPrim .sub (dCons (dVar 4) (dCons (dC (.int 1)) dNil))) dNil))))))
    (sRaiseL (dC .none))
    sPass)
    (sRet (dPrim .tup (dCons (dVar 4) (dCons (dPrim .tuple (dCons (dVar 1) dNil)) dNil)))))))))
def b__law_parse : Sx :=
  (sTry (sRet (dCall 88 (dCons (dVar 0) dNil)))
    [(1, fun e => if e.cls = 1 then some (.list [.str "line", e.line]) else none)])
def b__law_worked : Sx :=
  (sTry (sRet (dIte (dPrim .eq (dCons (dVar 1) (dCons (dC (.int 0)) dNil))) (dMt 101 "push" (dVar 0) (dCons (dVar 2) dNil)) (dMt 105 "undo" (dVar 0) dNil)))
    [(3, fun e => some (.str (if subX e.cls 0 && !subX e.cls 4 then "list" else "other"))), (10, fun e => some (.str (if subX e.cls 0 && !subX e.cls 3 then "nothing" else "other")))])
def b__law_raise : Sx :=
  (sSeq (sAsg 1 (dPrim .tup (dCons (dPrim .tup (dCons (dC (.int 0)) (dCons (dC (.int 1)) dNil))) (dCons (dPrim .tup (dCons (dC (.int 1)) (dCons (dC (.int 2)) dNil))) dNil))))
    (sSeq (sIf (dPrim .eq (dCons (dVar 0) (dCons (dC (.int 0)) dNil)))
    (sRet (dCall 64 (dCons (dC (.int 7)) dNil)))
    sPass)
    (sSeq (sIf (dPrim .eq (dCons (dVar 0) (dCons (dC (.int 1)) dNil)))
    (sRet (dCall 11 (dCons (dC (.int 3)) (dCons (dPrim .tup (dCons (dPrim .tup (dCons (dC (.int 0)) (dCons (dC (.int 1)) dNil))) dNil)) dNil))))
    sPass)
    (sSeq (sIf (dPrim .eq (dCons (dVar 0) (dCons (dC (.int 2)) dNil)))
    (sRet (dCall 54 (dCons (dC (.int 3)) (dCons (dVar 1) (dCons (dC (.int 1)) dNil)))))
    sPass)
    (sSeq (sIf (dPrim .eq (dCons (dVar 0) (dCons (dC (.int 3)) dNil)))
    (sRet (dCall 72 (dCons (dC (.int 3)) (dCons (dPrim .tup (dCons (dPrim .tup (dCons (dC (.int 0)) (dCons (dC (.int 1)) dNil))) (dCons (dPrim .tup (dCons (dC (.int 0)) (dCons (dC (.int 1)) dNil))) dNil))) dNil))))
    sPass)
    (sSeq (sIf (dPrim .eq (dCons (dVar 0) (dCons (dC (.int 4)) dNil)))
    (sRet (dCall 85 (dCons (dC (.int 3)) (dCons (dPrim .tup (dCons (dPrim .tup (dCons (dC (.int 3)) (dCons (dC (.int 0)) (dCons (dC (.int 0)) dNil)))) dNil)) dNil))))
    sPass)
    (sSeq (sIf (dPrim .eq (dCons (dVar 0) (dCons (dC (.int 5)) dNil)))
    (sRet (dCall 57 (dCons (dC (.int 3)) (dCons (dVar 1) dNil))))
    sPass)
    (sSeq (sIf (dPrim .eq (dCons (dVar 0) (dCons (dC (.int 6)) dNil)))
    (sRet (dCall 44 (dCons (dC (.int 3)) (dCons (dPrim .rev (dCons (dVar 1) dNil)) dNil))))
    sPass)
    (sSeq (sIf (dPrim .eq (dCons (dVar 0) (dCons (dC (.int 7)) dNil)))
    (sRet (dCall 61 (dCons (dC (.int 3)) (dCons (dVar 1) dNil))))
    sPass)
    (sRet (dIte (dPrim .eq (dCons (dVar 0) (dCons (dC (.int 8)) dNil))) (dCall 88 (dCons (dC (.str "0-1 x")) dNil)) (dMt 105 "undo" (dMk 96 (dCons (dC (.int 3)) dNil)) dNil))))))))))))
def b__law_asked : Sx :=
  (sSeq (sIf (dPrim .eq (dCons (dVar 0) (dCons (dC (.int 0)) dNil)))
    (sRet (dCall 9 (dCons (dVar 1) (dCons (dVar 1) dNil))))
    sPass)
    (sSeq (sIf (dPrim .eq (dCons (dVar 0) (dCons (dC (.int 1)) dNil)))
    (sRet (dCall 13 (dCons (dC (.int 3)) (dCons (dVar 1) (dCons (dVar 1) dNil)))))
    sPass)
    (sSeq (sIf (dPrim .eq (dCons (dVar 0) (dCons (dC (.int 2)) dNil)))
    (sRet (dCall 13 (dCons (dVar 1) (dCons (dVar 1) (dCons (dVar 1) dNil)))))
    sPass)
    (sSeq (sIf (dPrim .eq (dCons (dVar 0) (dCons (dC (.int 3)) dNil)))
    (sRet (dCall 54 (dCons (dC (.int 3)) (dCons (dVar 1) (dCons (dVar 1) dNil)))))
    sPass)
    (sSeq (sIf (dPrim .eq (dCons (dVar 0) (dCons (dC (.int 4)) dNil)))
    (sRet (dCall 56 (dCons (dC (.int 3)) (dCons (dVar 1) (dCons (dVar 1) dNil)))))
    sPass)
    (sSeq (sIf (dPrim .eq (dCons (dVar 0) (dCons (dC (.int 5)) dNil)))
    (sRet (dCall 56 (dCons (dC (.int 3)) (dCons (dPrim .tup (dCons (dPrim .tup (dCons (dC (.int 0)) (dCons (dC (.int 1)) dNil))) (dCons (dPrim .tup (dCons (dC (.int 0)) (dCons (dC (.int 1)) dNil))) dNil))) (dCons (dVar 1) dNil)))))
    sPass)
    (sSeq (sIf (dPrim .eq (dCons (dVar 0) (dCons (dC (.int 6)) dNil)))
    (sRet (dCall 59 (dCons (dC (.int 3)) (dCons (dPrim .tup (dCons (dPrim .tup (dCons (dC (.int 0)) (dCons (dC (.int 1)) dNil))) (dCons (dPrim .tup (dCons (dC (.int 0)) (dCons (dC (.int 1)) dNil))) dNil))) (dCons (dVar 1) dNil)))))
    sPass)
    (sSeq (sIf (dPrim .eq (dCons (dVar 0) (dCons (dC (.int 7)) dNil)))
    (sRet (dCall 59 (dCons (dVar 1) (dCons (dVar 1) (dCons (dVar 1) dNil)))))
    sPass)
    (sSeq (sIf (dPrim .eq (dCons (dVar 0) (dCons (dC (.int 8)) dNil)))
    (sRet (dCall 36 (dCons (dC (.int 3)) (dCons (dPrim .tup (dCons (dPrim .tup (dCons (dC (.int 0)) (dCons (dC (.int 1)) dNil))) (dCons (dPrim .tup (dCons (dC (.int 0)) (dCons (dC (.int 1)) dNil))) dNil))) (dCons (dVar 1) dNil)))))
    sPass)
    (sSeq (sIf (dPrim .eq (dCons (dVar 0) (dCons (dC (.int 9)) dNil)))
    (sRet (dCall 81 (dCons (dVar 1) (dCons (dVar 1) dNil))))
    sPass)
    (sSeq (sIf (dPrim .eq (dCons (dVar 0) (dCons (dC (.int 10)) dNil)))
    (sRet (dCall 72 (dCons (dVar 1) (dCons (dVar 1) dNil))))
    sPass)
    (sRet (dCall 85 (dCons (dVar 1) (dCons (dVar 1) dNil)))))))))))))))
def b__law_failed : Sx :=
  (sSeq sStuck
    (sRet (dC (.bool false))))
def b__law_listed_bad : Sx :=
  (sSeq (sTry (sIf (dPrim .eq (dCons (dVar 0) (dCons (dC (.int 0)) dNil)))
    (sExpr (dCall 9 (dCons (dVar 1) (dCons (dVar 2) dNil))))
    (sIf (dPrim .eq (dCons (dVar 0) (dCons (dC (.int 1)) dNil)))
    (sExpr (dCall 17 (dCons (dVar 1) (dCons (dVar 2) dNil))))
    (sIf (dPrim .eq (dCons (dVar 0) (dCons (dC (.int 2)) dNil)))
    (sExpr (dCall 18 (dCons (dVar 1) (dCons (dVar 2) dNil))))
    (sIf (dPrim .eq (dCons (dVar 0) (dCons (dC (.int 3)) dNil)))
    (sExpr (dCall 11 (dCons (dVar 1) (dCons (dVar 2) dNil))))
    (sIf (dPrim .eq (dCons (dVar 0) (dCons (dC (.int 4)) dNil)))
    (sExpr (dCall 26 (dCons (dVar 1) (dCons (dVar 2) dNil))))
    (sExpr (dCall 24 (dCons (dVar 1) (dCons (dVar 2) (dCons (dC .none) dNil))))))))))
    [(2, fun e => some (.str (if subX e.cls 0 && !subX e.cls 3 then "size" else "other"))), (3, fun e => some (.str (if subX e.cls 0 && !subX e.cls 2 then "list" else "other")))])
    (sRet (dC (.str "none"))))
def b__law_is_exchange : Sx :=
  (sSeq (sIf (dOr (dNot (dPrim .isTuple (dCons (dVar 1) dNil))) (dOr (dPrim .ne (dCons (dPrim .len (dCons (dVar 1) dNil)) (dCons (dC (.int 2)) dNil))) (dNot (dCall 46 (dCons (dPrim .ix (dCons (dVar 1) (dCons (dC (.int 0)) dNil))) (dCons (dC (.int 0)) (dCons (dPrim .sub (dCons (dVar 0) (dCons (dC (.int 2)) dNil))) dNil)))))))
    (sRet (dC (.bool false)))
    sPass)
    (sRet (dCall 46 (dCons (dPrim .ix (dCons (dVar 1) (dCons (dC (.int 1)) dNil))) (dCons (dPrim .add (dCons (dPrim .ix (dCons (dVar 1) (dCons (dC (.int 0)) dNil))) (dCons (dC (.int 1)) dNil))) (dCons (dPrim .sub (dCons (dVar 0) (dCons (dC (.int 1)) dNil))) dNil))))))
def b_W___init__ : Sx :=
  (sSeq (sExpr (dCall 2 (dCons (dVar 1) dNil)))
    (sSeq (sFld (dVar 0) "size" (dVar 1))
    (sSeq (sFld (dVar 0) "row" (dPrim .tup dNil))
    (sFld (dVar 0) "kept" (dC (.int 0))))))
def b_W___len__ : Sx :=
  (sRet (dPrim .len (dCons (dFld (dVar 0) "row") dNil)))
def b_W___str__ : Sx :=
  (sRet (dPrim .str (dCons (dIte (dFld (dVar 0) "row") (dCall 25 (dCons (dFld (dVar 0) "row") dNil)) (dC (.str "none"))) dNil)))
def b_W___eq__ : Sx :=
  (sSeq (sIf (dNot (dIsO (dVar 1)))
    (sRet (dC (.bool false)))
    sPass)
    (sRet (dAnd (dPrim .eq (dCons (dFld (dVar 0) "size") (dCons (dFld (dVar 1) "size") dNil))) (dPrim .eq (dCons (dFld (dVar 0) "row") (dCons (dFld (dVar 1) "row") dNil))))))
def b_W_exchanges : Sx :=
  (sRet (dFld (dVar 0) "row"))
def b_W_push : Sx :=
  (sSeq (sIf (dOr (dNot (dCall 3 (dCons (dFld (dVar 0) "size") (dCons (dVar 1) dNil)))) (dPrim .eq (dCons (dPrim .len (dCons (dFld (dVar 0) "row") dNil)) (dCons (dPrim .sub (dCons (dFld (dVar 0) "size") (dCons (dC (.int 1)) dNil))) dNil))))
    (sRaise 3)
    sPass)
    (sSeq (sFld (dVar 0) "row" (dPrim .add (dCons (dFld (dVar 0) "row") (dCons (dPrim .tup (dCons (dVar 1) dNil)) dNil))))
    (sRet (dPrim .gt (dCons (dCall 16 (dCons (dFld (dVar 0) "size") (dCons (dFld (dVar 0) "row") dNil))) (dCons (dC (.int 0)) dNil))))))
def b_W_options : Sx :=
  (sRet (dCall 18 (dCons (dFld (dVar 0) "size") (dCons (dFld (dVar 0) "row") dNil))))
def b_W_groups : Sx :=
  (sRet (dCall 12 (dCons (dFld (dVar 0) "size") (dCons (dFld (dVar 0) "row") dNil))))
def b_W_is_done : Sx :=
  (sRet (dCall 10 (dCons (dFld (dVar 0) "size") (dCons (dFld (dVar 0) "row") dNil))))
def b_W_undo : Sx :=
  (sSeq (sIf (dPrim .le (dCons (dPrim .len (dCons (dFld (dVar 0) "row") dNil)) (dCons (dFld (dVar 0) "kept") dNil)))
    (sRaise 10)
    sPass)
    (sSeq (sAsg 1 (dPrim .ix (dCons (dFld (dVar 0) "row") (dCons (dPrim .neg (dCons (dC (.int 1)) dNil)) dNil))))
    (sSeq (sFld (dVar 0) "row" (dPrim .slH (dCons (dFld (dVar 0) "row") (dCons (dPrim .neg (dCons (dC (.int 1)) dNil)) dNil))))
    (sRet (dVar 1)))))
def b_W_duplicate : Sx :=
  (sSeq (sAsg 1 (dMk 96 (dCons (dFld (dVar 0) "size") dNil)))
    (sSeq (sFld (dVar 1) "row" (dFld (dVar 0) "row"))
    (sSeq (sFld (dVar 1) "kept" (dPrim .len (dCons (dFld (dVar 0) "row") dNil)))
    (sRet (dVar 1)))))
def f_in_range : Fd := ⟨3, 3, b_in_range⟩
def f_check_size : Fd := ⟨1, 1, b_check_size⟩
def f_is_exchange : Fd := ⟨2, 2, b_is_exchange⟩
def f_are_exchanges : Fd := ⟨3, 4, b_are_exchanges⟩
def f_check_list : Fd := ⟨2, 2, b_check_list⟩
def f_check_part : Fd := ⟨2, 2, b_check_part⟩
def f_moved : Fd := ⟨2, 2, b_moved⟩
def f_result_of : Fd := ⟨2, 6, b_result_of⟩
def f_result : Fd := ⟨2, 2, b_result⟩
def f_is_round_list : Fd := ⟨2, 2, b_is_round_list⟩
def f_is_round : Fd := ⟨2, 2, b_is_round⟩
def f_groups_of : Fd := ⟨2, 6, b_groups_of⟩
def f_groups : Fd := ⟨3, 3, b_groups⟩
def f_every_exchange : Fd := ⟨1, 3, b_every_exchange⟩
def f_rest_groups : Fd := ⟨2, 9, b_rest_groups⟩
def f_completions_of : Fd := ⟨2, 7, b_completions_of⟩
def f_count_completions : Fd := ⟨2, 2, b_count_completions⟩
def f_next_exchanges : Fd := ⟨2, 3, b_next_exchanges⟩
def f_cross : Fd := ⟨2, 5, b_cross⟩
def f_far_end : Fd := ⟨3, 3, b_far_end⟩
def f_wrong_turns : Fd := ⟨2, 9, b_wrong_turns⟩
def f_crossings : Fd := ⟨1, 6, b_crossings⟩
def f_closing : Fd := ⟨2, 7, b_closing⟩
def f_is_paper : Fd := ⟨3, 4, b_is_paper⟩
def f_written : Fd := ⟨1, 3, b_written⟩
def f_format_list : Fd := ⟨2, 2, b_format_list⟩
def f_chords_of : Fd := ⟨2, 2, b_chords_of⟩
def f__law_cell : Fd := ⟨2, 2, b__law_cell⟩
def f__law_row : Fd := ⟨2, 5, b__law_row⟩
def f__law_pairs : Fd := ⟨1, 4, b__law_pairs⟩
def f__law_to : Fd := ⟨2, 2, b__law_to⟩
def f__law_round : Fd := ⟨3, 10, b__law_round⟩
def f__law_list : Fd := ⟨3, 7, b__law_list⟩
def f__law_error : Fd := ⟨3, 4, b__law_error⟩
def f_check_round : Fd := ⟨2, 2, b_check_round⟩
def f_remaining_groups : Fd := ⟨3, 4, b_remaining_groups⟩
def f__law_result : Fd := ⟨2, 5, b__law_result⟩
def f__law_is_round : Fd := ⟨2, 3, b__law_is_round⟩
def f__law_groups : Fd := ⟨2, 9, b__law_groups⟩
def f__law_grouped : Fd := ⟨4, 5, b__law_grouped⟩
def f__law_between : Fd := ⟨2, 2, b__law_between⟩
def f__law_crossed : Fd := ⟨2, 3, b__law_crossed⟩
def f_first_fault : Fd := ⟨2, 4, b_first_fault⟩
def f_paper : Fd := ⟨2, 3, b_paper⟩
def f__law_whole : Fd := ⟨1, 1, b__law_whole⟩
def f__law_in : Fd := ⟨3, 3, b__law_in⟩
def f__law_loop : Fd := ⟨2, 7, b__law_loop⟩
def f__law_is_paper : Fd := ⟨3, 9, b__law_is_paper⟩
def f__law_paper : Fd := ⟨2, 3, b__law_paper⟩
def f_through : Fd := ⟨2, 3, b_through⟩
def f_check_number : Fd := ⟨2, 2, b_check_number⟩
def f_later_of : Fd := ⟨2, 4, b_later_of⟩
def f_earlier_of : Fd := ⟨2, 4, b_earlier_of⟩
def f_move_later : Fd := ⟨3, 3, b_move_later⟩
def f_move_earlier : Fd := ⟨3, 3, b_move_earlier⟩
def f_turned : Fd := ⟨3, 5, b_turned⟩
def f_rolled : Fd := ⟨2, 3, b_rolled⟩
def f__law_shifted : Fd := ⟨4, 5, b__law_shifted⟩
def f_road : Fd := ⟨3, 9, b_road⟩
def f__law_road : Fd := ⟨3, 4, b__law_road⟩
def f_complete : Fd := ⟨2, 3, b_complete⟩
def f__law_all : Fd := ⟨2, 7, b__law_all⟩
def f__law_completed : Fd := ⟨2, 3, b__law_completed⟩
def f_count_lists : Fd := ⟨1, 1, b_count_lists⟩
def f_lists_from : Fd := ⟨2, 4, b_lists_from⟩
def f_all_lists : Fd := ⟨1, 1, b_all_lists⟩
def f_is_plain_tree : Fd := ⟨2, 5, b_is_plain_tree⟩
def f_is_tree : Fd := ⟨2, 4, b_is_tree⟩
def f_earlier_chords : Fd := ⟨3, 7, b_earlier_chords⟩
def f_check_tree : Fd := ⟨2, 2, b_check_tree⟩
def f_orders_of : Fd := ⟨3, 6, b_orders_of⟩
def f_lists_of : Fd := ⟨2, 2, b_lists_of⟩
def f__law_treed : Fd := ⟨2, 3, b__law_treed⟩
def f__law_is_tree : Fd := ⟨2, 4, b__law_is_tree⟩
def f__law_orders : Fd := ⟨1, 6, b__law_orders⟩
def f_trees_from : Fd := ⟨3, 8, b_trees_from⟩
def f_all_trees : Fd := ⟨1, 1, b_all_trees⟩
def f_least_places : Fd := ⟨2, 4, b_least_places⟩
def f_are_places : Fd := ⟨2, 3, b_are_places⟩
def f_fitting : Fd := ⟨3, 5, b_fitting⟩
def f_from_places : Fd := ⟨2, 3, b_from_places⟩
def f__law_placed : Fd := ⟨3, 4, b__law_placed⟩
def f_place_after : Fd := ⟨3, 5, b_place_after⟩
def f_check_answers : Fd := ⟨2, 4, b_check_answers⟩
def f_candidates : Fd := ⟨2, 7, b_candidates⟩
def f_best_question : Fd := ⟨2, 10, b_best_question⟩
def f__law_hidden : Fd := ⟨3, 4, b__law_hidden⟩
def f_parse_list : Fd := ⟨1, 5, b_parse_list⟩
def f__law_parse : Fd := ⟨1, 2, b__law_parse⟩
def f__law_worked : Fd := ⟨3, 4, b__law_worked⟩
def f__law_raise : Fd := ⟨1, 2, b__law_raise⟩
def f__law_asked : Fd := ⟨2, 2, b__law_asked⟩
def f__law_failed : Fd := ⟨3, 4, b__law_failed⟩
def f__law_listed_bad : Fd := ⟨3, 4, b__law_listed_bad⟩
def f__law_is_exchange : Fd := ⟨2, 2, b__law_is_exchange⟩
def f_W___init__ : Fd := ⟨2, 2, b_W___init__⟩
def f_W___len__ : Fd := ⟨1, 1, b_W___len__⟩
def f_W___str__ : Fd := ⟨1, 1, b_W___str__⟩
def f_W___eq__ : Fd := ⟨2, 2, b_W___eq__⟩
def f_W_exchanges : Fd := ⟨1, 1, b_W_exchanges⟩
def f_W_push : Fd := ⟨2, 2, b_W_push⟩
def f_W_options : Fd := ⟨1, 1, b_W_options⟩
def f_W_groups : Fd := ⟨1, 1, b_W_groups⟩
def f_W_is_done : Fd := ⟨1, 1, b_W_is_done⟩
def f_W_undo : Fd := ⟨1, 2, b_W_undo⟩
def f_W_duplicate : Fd := ⟨1, 2, b_W_duplicate⟩
abbrev i_in_range : Nat := 1
abbrev i_check_size : Nat := 2
abbrev i_is_exchange : Nat := 3
abbrev i_are_exchanges : Nat := 4
abbrev i_check_list : Nat := 5
abbrev i_check_part : Nat := 6
abbrev i_moved : Nat := 7
abbrev i_result_of : Nat := 8
abbrev i_result : Nat := 9
abbrev i_is_round_list : Nat := 10
abbrev i_is_round : Nat := 11
abbrev i_groups_of : Nat := 12
abbrev i_groups : Nat := 13
abbrev i_every_exchange : Nat := 14
abbrev i_rest_groups : Nat := 15
abbrev i_completions_of : Nat := 16
abbrev i_count_completions : Nat := 17
abbrev i_next_exchanges : Nat := 18
abbrev i_cross : Nat := 19
abbrev i_far_end : Nat := 20
abbrev i_wrong_turns : Nat := 21
abbrev i_crossings : Nat := 22
abbrev i_closing : Nat := 23
abbrev i_is_paper : Nat := 24
abbrev i_written : Nat := 25
abbrev i_format_list : Nat := 26
abbrev i_chords_of : Nat := 27
abbrev i__law_cell : Nat := 28
abbrev i__law_row : Nat := 29
abbrev i__law_pairs : Nat := 30
abbrev i__law_to : Nat := 31
abbrev i__law_round : Nat := 32
abbrev i__law_list : Nat := 33
abbrev i__law_error : Nat := 34
abbrev i_check_round : Nat := 35
abbrev i_remaining_groups : Nat := 36
abbrev i__law_result : Nat := 37
abbrev i__law_is_round : Nat := 38
abbrev i__law_groups : Nat := 39
abbrev i__law_grouped : Nat := 40
abbrev i__law_between : Nat := 41
abbrev i__law_crossed : Nat := 42
abbrev i_first_fault : Nat := 43
abbrev i_paper : Nat := 44
abbrev i__law_whole : Nat := 45
abbrev i__law_in : Nat := 46
abbrev i__law_loop : Nat := 47
abbrev i__law_is_paper : Nat := 48
abbrev i__law_paper : Nat := 49
abbrev i_through : Nat := 50
abbrev i_check_number : Nat := 51
abbrev i_later_of : Nat := 52
abbrev i_earlier_of : Nat := 53
abbrev i_move_later : Nat := 54
abbrev i_move_earlier : Nat := 55
abbrev i_turned : Nat := 56
abbrev i_rolled : Nat := 57
abbrev i__law_shifted : Nat := 58
abbrev i_road : Nat := 59
abbrev i__law_road : Nat := 60
abbrev i_complete : Nat := 61
abbrev i__law_all : Nat := 62
abbrev i__law_completed : Nat := 63
abbrev i_count_lists : Nat := 64
abbrev i_lists_from : Nat := 65
abbrev i_all_lists : Nat := 66
abbrev i_is_plain_tree : Nat := 67
abbrev i_is_tree : Nat := 68
abbrev i_earlier_chords : Nat := 69
abbrev i_check_tree : Nat := 70
abbrev i_orders_of : Nat := 71
abbrev i_lists_of : Nat := 72
abbrev i__law_treed : Nat := 73
abbrev i__law_is_tree : Nat := 74
abbrev i__law_orders : Nat := 75
abbrev i_trees_from : Nat := 76
abbrev i_all_trees : Nat := 77
abbrev i_least_places : Nat := 78
abbrev i_are_places : Nat := 79
abbrev i_fitting : Nat := 80
abbrev i_from_places : Nat := 81
abbrev i__law_placed : Nat := 82
abbrev i_place_after : Nat := 83
abbrev i_check_answers : Nat := 84
abbrev i_candidates : Nat := 85
abbrev i_best_question : Nat := 86
abbrev i__law_hidden : Nat := 87
abbrev i_parse_list : Nat := 88
abbrev i__law_parse : Nat := 89
abbrev i__law_worked : Nat := 90
abbrev i__law_raise : Nat := 91
abbrev i__law_asked : Nat := 92
abbrev i__law_failed : Nat := 93
abbrev i__law_listed_bad : Nat := 94
abbrev i__law_is_exchange : Nat := 95
abbrev i_W___init__ : Nat := 96
abbrev i_W___len__ : Nat := 97
abbrev i_W___str__ : Nat := 98
abbrev i_W___eq__ : Nat := 99
abbrev i_W_exchanges : Nat := 100
abbrev i_W_push : Nat := 101
abbrev i_W_options : Nat := 102
abbrev i_W_groups : Nat := 103
abbrev i_W_is_done : Nat := 104
abbrev i_W_undo : Nat := 105
abbrev i_W_duplicate : Nat := 106
end Rx

set_option Elab.async false
set_option linter.all false
set_option maxRecDepth 100000
set_option maxHeartbeats 1000000
set_option autoImplicit false
namespace Rx
open PySem L2

/-! ### values and data -/
mutual
inductive Rp (F : Hp) : V → D → Prop
  | non : Rp F .non .none
  | bl (b : Bool) : Rp F (.bl b) (.bool b)
  | int (i : Int) : Rp F (.int i) (.int i)
  | str (x : Str) : Rp F (.str x) (.str x)
  | lst {a : Addr} {vs : List V} {ds : List D} : F a = some (.lst vs) → RpAll F vs ds → Rp F (.ref a) (.list ds)
  | tup {a : Addr} {vs : List V} {ds : List D} : F a = some (.tup vs) → RpAll F vs ds → Rp F (.ref a) (.tuple ds)
inductive RpAll (F : Hp) : List V → List D → Prop
  | nil : RpAll F [] []
  | cons {v : V} {vs : List V} {d : D} {ds : List D} : Rp F v d → RpAll F vs ds → RpAll F (v :: vs) (d :: ds)
end
mutual
theorem Rp.mono {F F' : Hp} (s : Same F F') : ∀ (d : D) (v : V), Rp F v d → Rp F' v d
  | .none, _, h => by cases h; exact .non
  | .bool b, _, h => by cases h; exact .bl b
  | .int i, _, h => by cases h; exact .int i
  | .str x, _, h => by cases h; exact .str x
  | .list ds, _, h => by
    cases h with
    | lst e r => exact .lst (s _ _ e) (RpAll.mono s ds _ r)
  | .tuple ds, _, h => by
    cases h with
    | tup e r => exact .tup (s _ _ e) (RpAll.mono s ds _ r)
  | .dict _, _, h => by cases h
theorem RpAll.mono {F F' : Hp} (s : Same F F') : ∀ (ds : List D) (vs : List V), RpAll F vs ds → RpAll F' vs ds
  | [], _, h => by cases h; exact .nil
  | d :: ds, _, h => by
    cases h with
    | cons r t => exact .cons (Rp.mono s d _ r) (RpAll.mono s ds _ t)
end
mutual
theorem Rp.dp {K : PySem.W.Frag} {F : Hp} : ∀ (d : D) (v : V), Rp F v d → Dp K F v d
  | .none, _, h => by cases h; exact .non
  | .bool b, _, h => by cases h; exact .bl b
  | .int i, _, h => by cases h; exact .int i
  | .str x, _, h => by cases h; exact .str x
  | .list ds, _, h => by
    cases h with
    | lst e r => exact .lst (.inl (.inl e)) (RpAll.dp ds _ r)
  | .tuple ds, _, h => by
    cases h with
    | tup e r => exact .tup (.inl (.inl e)) (RpAll.dp ds _ r)
  | .dict _, _, h => by cases h
theorem RpAll.dp {K : PySem.W.Frag} {F : Hp} : ∀ (ds : List D) (vs : List V), RpAll F vs ds → DpAll K F vs ds
  | [], _, h => by cases h; exact .nil
  | d :: ds, _, h => by
    cases h with
    | cons r t => exact .cons (Rp.dp d _ r) (RpAll.dp ds _ t)
end
theorem RpAll.length {F : Hp} : ∀ {ds : List D} {vs : List V}, RpAll F vs ds → vs.length = ds.length
  | [], _, h => by cases h; rfl
  | d :: ds, _, h => by
    cases h with
    | cons r t => simp [RpAll.length t]
theorem RpAll.get {F : Hp} : ∀ {ds : List D} {vs : List V} {i : Nat} {d : D}, RpAll F vs ds → ds[i]? = some d → ∃ v, vs[i]? = some v ∧ Rp F v d
  | [], _, _, _, _, e => by simp at e
  | _ :: ds, _, 0, d, h, e => by
    cases h with
    | cons r t => simp at e; subst e; exact ⟨_, rfl, r⟩
  | _ :: ds, _, i + 1, d, h, e => by
    cases h with
    | cons r t =>
      obtain ⟨v, h1, h2⟩ := RpAll.get (i := i) t (by simpa using e)
      exact ⟨v, by simpa using h1, h2⟩
theorem RpAll.getV {F : Hp} : ∀ {ds : List D} {vs : List V} {i : Nat} {v : V}, RpAll F vs ds → vs[i]? = some v → ∃ d, ds[i]? = some d ∧ Rp F v d
  | [], _, _, _, h, e => by cases h; simp at e
  | _ :: ds, _, 0, v, h, e => by
    cases h with
    | cons r t => simp at e; subst e; exact ⟨_, rfl, r⟩
  | _ :: ds, _, i + 1, v, h, e => by
    cases h with
    | cons r t =>
      obtain ⟨d, h1, h2⟩ := RpAll.getV (i := i) t (by simpa using e)
      exact ⟨d, by simpa using h1, h2⟩
theorem RpAll.append {F : Hp} : ∀ {ds es : List D} {vs us : List V}, RpAll F vs ds → RpAll F us es → RpAll F (vs ++ us) (ds ++ es)
  | [], _, _, _, h, g => by cases h; exact g
  | d :: ds, _, _, _, h, g => by
    cases h with
    | cons r t => exact .cons r (RpAll.append t g)
theorem RpAll.take {F : Hp} : ∀ {ds : List D} {vs : List V} (n : Nat), RpAll F vs ds → RpAll F (vs.take n) (ds.take n)
  | _, _, 0, _ => .nil
  | [], _, n + 1, h => by cases h; exact .nil
  | d :: ds, _, n + 1, h => by
    cases h with
    | cons r t => exact .cons r (RpAll.take n t)
theorem RpAll.drop {F : Hp} : ∀ {ds : List D} {vs : List V} (n : Nat), RpAll F vs ds → RpAll F (vs.drop n) (ds.drop n)
  | _, _, 0, h => h
  | [], _, n + 1, h => by cases h; exact .nil
  | d :: ds, _, n + 1, h => by
    cases h with
    | cons r t => exact RpAll.drop n t
theorem RpAll.set {F : Hp} {v : V} {d : D} (r : Rp F v d) : ∀ {ds : List D} {vs : List V} (n : Nat), RpAll F vs ds → RpAll F (vs.set n v) (ds.set n d)
  | [], _, _, h => by cases h; exact .nil
  | _ :: ds, _, 0, h => by
    cases h with
    | cons _ t => exact .cons r t
  | _ :: ds, _, n + 1, h => by
    cases h with
    | cons q t => exact .cons q (RpAll.set r n t)
theorem RpAll.reverse {F : Hp} : ∀ {ds : List D} {vs : List V}, RpAll F vs ds → RpAll F vs.reverse ds.reverse
  | [], _, h => by cases h; exact .nil
  | d :: ds, _, h => by
    cases h with
    | cons r t =>
      rw [List.reverse_cons, List.reverse_cons]
      exact RpAll.append (RpAll.reverse t) (.cons r .nil)

/-! ### worker objects, the script, a list that is changed in place -/
def Rt (K : PySem.W.Frag) (A : List Addr) (F : Hp) (v : V) (d : D) : Prop :=
  Rp F v d ∨ (∃ (i : Nat) (a : Addr), d = dObj i ∧ A[i]? = some a ∧ v = .ref a) ∨ (∃ (a : Addr) (ns : List Int), d = dScript ns ∧ v = .ref a ∧ SqL K F a (ns.map V.int)) ∨
    (∃ (a : Addr) (ns : List Int), d = dX ns ∧ v = .ref a ∧ ∃ o : Obj, F a = some (.frz o (.tup (ns.map V.int))) ∧ o.cls = .type "tuple" ∧ o.dict = none)
theorem Rt.plain {K : PySem.W.Frag} {A : List Addr} {F : Hp} {v : V} {d : D} (h : Rt K A F v d) (p : plain d = true) : Rp F v d := by
  rcases h with h | ⟨i, a, rfl, _⟩ | ⟨a, ns, rfl, _⟩ | ⟨a, ns, rfl, _⟩
  · exact h
  · simp [dObj, Rx.plain] at p
  · simp [dScript, Rx.plain] at p
  · simp [dX, Rx.plain] at p
def Ow (F H : Hp) (v : V) (d : D) : Prop := ∃ (p : Addr) (vs : List V) (ds : List D), v = .ref p ∧ d = .list ds ∧ H p = some (.lst vs) ∧ F p = none ∧ RpAll F vs ds
def Ro (K : PySem.W.Frag) (A : List Addr) (F H : Hp) (v : V) (d : D) : Prop := Rt K A F v d ∨ Ow F H v d
inductive RoAll (K : PySem.W.Frag) (A : List Addr) (F H : Hp) : List V → List D → Prop
  | nil : RoAll K A F H [] []
  | cons {v : V} {vs : List V} {d : D} {ds : List D} : Ro K A F H v d → RoAll K A F H vs ds → RoAll K A F H (v :: vs) (d :: ds)
inductive RtAll (K : PySem.W.Frag) (A : List Addr) (F : Hp) : List V → List D → Prop
  | nil : RtAll K A F [] []
  | cons {v : V} {vs : List V} {d : D} {ds : List D} : Rt K A F v d → RtAll K A F vs ds → RtAll K A F (v :: vs) (d :: ds)
theorem RtAll.ro {K : PySem.W.Frag} {A : List Addr} {F H : Hp} : ∀ {vs : List V} {ds : List D}, RtAll K A F vs ds → RoAll K A F H vs ds
  | _, _, .nil => .nil
  | _, _, .cons a b => .cons (.inl a) b.ro
theorem RtAll.length {K : PySem.W.Frag} {A : List Addr} {F : Hp} : ∀ {vs : List V} {ds : List D}, RtAll K A F vs ds → vs.length = ds.length
  | _, _, .nil => rfl
  | _, _, .cons _ b => by simp [b.length]
theorem RtAll.plain {K : PySem.W.Frag} {A : List Addr} {F : Hp} : ∀ {vs : List V} {ds : List D}, RtAll K A F vs ds → ds.all Rx.plain = true → RpAll F vs ds
  | _, _, .nil, _ => .nil
  | _, _, .cons a b, p => by
    simp only [List.all_cons, Bool.and_eq_true] at p
    exact .cons (a.plain p.1) (b.plain p.2)

def isIns : HO → Bool
  | .ext _ => true
  | _ => false
/-- how the heaps go on: F what stands for good, H all that is tracked -/
structure Step (A : List Addr) (F H : Hp) (A' : List Addr) (F' H' : Hp) : Prop where
  ext : ∃ B, A' = A ++ B
  ff : Same F F'
  fh : Same F' H'
  hh : ∀ p o, H p = some o → isIns o = false → H' p = some o
  ins : ∀ p φ, H p = some (.ext φ) → ∃ φ', H' p = some (.ext φ')
  old : ∀ p o, H p = some o → F' p = F p
theorem Step.refl {A : List Addr} {F H : Hp} (h : Same F H) : Step A F H A F H := ⟨⟨[], by simp⟩, .refl _, h, fun _ _ e _ => e, fun _ φ e => ⟨φ, e⟩, fun _ _ _ => rfl⟩
theorem Step.trans {A A1 A2 : List Addr} {F F1 F2 H H1 H2 : Hp} (a : Step A F H A1 F1 H1) (b : Step A1 F1 H1 A2 F2 H2) : Step A F H A2 F2 H2 := by
  refine ⟨?_, a.ff.trans b.ff, b.fh, fun p o e i => b.hh p o (a.hh p o e i) i, fun p φ e => ?_, fun p o e => ?_⟩
  · obtain ⟨B1, e1⟩ := a.ext
    obtain ⟨B2, e2⟩ := b.ext
    exact ⟨B1 ++ B2, by rw [e2, e1, List.append_assoc]⟩
  · obtain ⟨f1, e1⟩ := a.ins p φ e
    exact b.ins p f1 e1
  · cases hi : isIns o with
    | false => rw [b.old p o (a.hh p o e hi), a.old p o e]
    | true =>
      cases o with
      | ext φ =>
        obtain ⟨f1, e1⟩ := a.ins p φ e
        rw [b.old p _ e1, a.old p _ e]
      | _ => cases hi
theorem Step.new {A : List Addr} {F H : Hp} {p : Addr} {o : HO} (h : Same F H) (n : H p = none) : Step A F H A (upd F p o) (upd H p o) := by
  have nf : F p = none := Same.free h n
  refine ⟨⟨[], by simp⟩, fun b u e => ?_, fun b u e => ?_, fun b u e _ => ?_, fun b φ e => ⟨φ, ?_⟩, fun b u e => ?_⟩
  · rw [upd_ne (ne_of_none e nf)]; exact e
  · by_cases hb : b = p
    · subst hb; rw [upd_same] at e ⊢; exact e
    · rw [upd_ne hb] at e ⊢; exact h b u e
  · rw [upd_ne (ne_of_none e n)]; exact e
  · rw [upd_ne (ne_of_none e n)]; exact e
  · rw [upd_ne (ne_of_none e n)]
/-- a new object that is not for good -/
theorem Step.newO {A : List Addr} {F H : Hp} {p : Addr} {o : HO} (h : Same F H) (n : H p = none) : Step A F H A F (upd H p o) := by
  refine ⟨⟨[], by simp⟩, .refl _, fun b u e => ?_, fun b u e _ => ?_, fun b φ e => ⟨φ, ?_⟩, fun b u e => rfl⟩
  · have := h b u e
    rw [upd_ne (ne_of_none this n)]; exact this
  · rw [upd_ne (ne_of_none e n)]; exact e
  · rw [upd_ne (ne_of_none e n)]; exact e
theorem sql_mono {K : PySem.W.Frag} {F F' : Hp} {a : Addr} {xs : List V} (s : Same F F') (h : SqL K F a xs) : SqL K F' a xs := s.seq h
theorem Rt.step {K : PySem.W.Frag} {A A' : List Addr} {F F' H H' : Hp} {v : V} {d : D} (s : Step A F H A' F' H') (h : Rt K A F v d) : Rt K A' F' v d := by
  rcases h with h | ⟨i, a, e, ha, hv⟩ | ⟨a, ns, e, hv, hq⟩ | ⟨a, ns, e, hv, o, hq, ho⟩
  · exact .inl (h.mono s.ff)
  · obtain ⟨B, eB⟩ := s.ext
    refine .inr (.inl ⟨i, a, e, ?_, hv⟩)
    rw [eB]
    obtain ⟨hl, _⟩ := List.getElem?_eq_some_iff.mp ha
    rw [List.getElem?_append_left hl]; exact ha
  · exact .inr (.inr (.inl ⟨a, ns, e, hv, sql_mono s.ff hq⟩))
  · exact .inr (.inr (.inr ⟨a, ns, e, hv, o, s.ff _ _ hq, ho⟩))
theorem Ow.step {A A' : List Addr} {F F' H H' : Hp} {v : V} {d : D} (s : Step A F H A' F' H') (h : Ow F H v d) : Ow F' H' v d := by
  obtain ⟨p, vs, ds, e1, e2, hp, fp, r⟩ := h
  exact ⟨p, vs, ds, e1, e2, s.hh p _ hp rfl, by rw [s.old p _ hp]; exact fp, r.mono s.ff⟩
theorem Ro.step {K : PySem.W.Frag} {A A' : List Addr} {F F' H H' : Hp} {v : V} {d : D} (s : Step A F H A' F' H') (h : Ro K A F H v d) : Ro K A' F' H' v d := by
  rcases h with h | h
  · exact .inl (h.step s)
  · exact .inr (h.step s)
theorem RoAll.step {K : PySem.W.Frag} {A A' : List Addr} {F F' H H' : Hp} (s : Step A F H A' F' H') : ∀ {vs : List V} {ds : List D}, RoAll K A F H vs ds → RoAll K A' F' H' vs ds
  | _, _, .nil => .nil
  | _, _, .cons a b => .cons (a.step s) (b.step s)
theorem RtAll.step {K : PySem.W.Frag} {A A' : List Addr} {F F' H H' : Hp} (s : Step A F H A' F' H') : ∀ {vs : List V} {ds : List D}, RtAll K A F vs ds → RtAll K A' F' vs ds
  | _, _, .nil => .nil
  | _, _, .cons a b => .cons (a.step s) (b.step s)

/-- the fields of an instance -/
abbrev FldR (F : Hp) : List (Str × V) → List (Str × D) → Prop := Paired fun p q => p.1 = q.1 ∧ Rp F p.2 q.2
/-- a dict whose keys are rows: where the key stands, the key, where the value stands (or None) -/
def ovV : Option Addr → Value
  | none => .none
  | some b => .ref b
def DctR (h : Heap) (a : Addr) (L : List (Addr × List (Int × Int) × Option Addr)) : Prop :=
  (a == sysModules) = false ∧ ∃ o es ep, h.get? a = some o ∧ o.ExactDict ∧ o.data = .dict es ep ∧ es.toList = L.map fun x => (⟨rowH x.2.1, .ref x.1, ovV x.2.2⟩ : DictEntry)
def DctO (a : Addr) (L : List (Addr × List (Int × Int) × Option Addr)) : HO := .ext fun h => DctR h a L
def DcE (F : Hp) (x : Addr × List (Int × Int) × Option Addr) (q : Str × D) : Prop :=
  ∃ dv, q = kvE (dRow x.2.1) dv ∧ Rp F (.ref x.1) (dRow x.2.1) ∧ ((x.2.2 = none ∧ dv = .none) ∨ ∃ b ds, x.2.2 = some b ∧ dv = .tuple ds ∧ Rp F (.ref b) dv)
abbrev DcR (F : Hp) : List (Addr × List (Int × Int) × Option Addr) → List (Str × D) → Prop := Paired (DcE F)
theorem DcR.mono {F F' : Hp} (s : Same F F') : ∀ {L : List (Addr × List (Int × Int) × Option Addr)} {fs : List (Str × D)}, DcR F L fs → DcR F' L fs
  | _, _, .nil => .nil
  | _, _, .cons r t => .cons (by
      obtain ⟨dv, e, h1, h2⟩ := r
      refine ⟨dv, e, h1.mono s, ?_⟩
      rcases h2 with h2 | ⟨b, ds, e1, e2, h2⟩
      · exact .inl h2
      · exact .inr ⟨b, ds, e1, e2, h2.mono s⟩) (DcR.mono s t)
/-- the dicts -/
structure Omg (C : Addr) (A : List Addr) (F H : Hp) (w : Om) : Prop where
  len : A.length = w.length
  nd : A.Nodup
  at_ : ∀ (i : Nat) (a : Addr) (fs : Fs), A[i]? = some a → w[i]? = some fs → ∃ L, H a = some (DctO a L) ∧ F a = none ∧ DcR F L fs ∧ (L.map (·.2.1)).Nodup
theorem FldR.mono {F F' : Hp} (s : Same F F') : ∀ {vs : List (Str × V)} {fs : List (Str × D)}, FldR F vs fs → FldR F' vs fs
  | _, _, .nil => .nil
  | _, _, .cons r t => .cons ⟨r.1, r.2.mono s⟩ (FldR.mono s t)
/-- nothing of the objects changes -/
theorem Omg.new {C : Addr} {A : List Addr} {F H F' H' : Hp} {w : Om} (o : Omg C A F H w) (s : Step A F H A F' H') (k : ∀ p u, H p = some u → H' p = some u) : Omg C A F' H' w := by
  refine ⟨o.len, o.nd, fun i a fs h1 h2 => ?_⟩
  obtain ⟨L, e1, e2, r, nd⟩ := o.at_ i a fs h1 h2
  exact ⟨L, k _ _ e1, by rw [s.old a _ e1]; exact e2, r.mono s.ff, nd⟩

/-! ### slots -/
def ownd (M : List Nat) (i : Nat) (d : D) : Bool := M.contains i && isLst d
structure Rel (K : PySem.W.Frag) (C : Addr) (M : List Nat) (A : List Addr) (F H : Hp) (σ : St) (r : Env) (w : Om) : Prop where
  fh : Same F H
  om : Omg C A F H w
  len : σ.length = r.length
  fro : ∀ (i : Nat) (d : D), r[i]? = some (some d) → ownd M i d = false → ∃ v, σ[i]? = some (some v) ∧ Rt K A F v d
  own : ∀ (i : Nat) (d : D), r[i]? = some (some d) → ownd M i d = true → ∃ v, σ[i]? = some (some v) ∧ Ow F H v d
  dis : ∀ (i j : Nat) (d e : D) (p : Addr), i ≠ j → r[i]? = some (some d) → r[j]? = some (some e) → ownd M i d = true → ownd M j e = true → σ[i]? = some (some (.ref p)) → σ[j]? ≠ some (some (.ref p))
theorem Rel.step {K : PySem.W.Frag} {C : Addr} {M : List Nat} {A A' : List Addr} {F H F' H' : Hp} {σ : St} {r : Env} {w w' : Om} (h : Rel K C M A F H σ r w) (s : Step A F H A' F' H') (o : Omg C A' F' H' w') : Rel K C M A' F' H' σ r w' := by
  refine ⟨s.fh, o, h.len, fun i d e q => ?_, fun i d e q => ?_, h.dis⟩
  · obtain ⟨v, e1, e2⟩ := h.fro i d e q
    exact ⟨v, e1, e2.step s⟩
  · obtain ⟨v, e1, e2⟩ := h.own i d e q
    exact ⟨v, e1, e2.step s⟩
theorem Rel.ro {K : PySem.W.Frag} {C : Addr} {M : List Nat} {A : List Addr} {F H : Hp} {σ : St} {r : Env} {w : Om} (h : Rel K C M A F H σ r w) {i : Nat} {d : D} (e : r[i]? = some (some d)) : ∃ v, σ[i]? = some (some v) ∧ Ro K A F H v d := by
  cases q : ownd M i d with
  | false =>
    obtain ⟨v, e1, e2⟩ := h.fro i d e q
    exact ⟨v, e1, .inl e2⟩
  | true =>
    obtain ⟨v, e1, e2⟩ := h.own i d e q
    exact ⟨v, e1, .inr e2⟩
theorem ownd_of {M : List Nat} {i : Nat} {d : D} (h : ownd M i d = true) : isLst d = true := by
  unfold ownd at h
  rw [Bool.and_eq_true] at h
  exact h.2

/-! ### the readings -/
/-- what is fixed through a body: the written part, the class of the workers, the slots of lists changed in place, what is wanted of an exception, the callees, the exceptions' classes -/
structure Cg where
  K : PySem.W.Frag
  C : Addr
  M : List Nat
  W : WX
  c : Cf
  ec : Nat → Option Value
  A0 : List Addr
  F0 : Hp
  H0 : Hp
/-- an exception's value -/
def XRep (ec : Nat → Option Value) (F H : Hp) (cls : Value) (dd : Option Addr) (x : Xn) : Prop :=
  ec x.cls = some cls ∧ ((x.cls ≠ 1 ∧ dd = none) ∨ (x.cls = 1 ∧ ∃ d v, dd = some d ∧ H d = some (.xd [("line", v)]) ∧ Rp F v x.line))
def Post (G : Cg) (rp : List Addr → Hp → Hp → V → D → Prop) (Q : VK) (σ : St) (A : List Addr) (F H : Hp) : R → Om → Prop
  | .val d, w => ∀ v A' F' H', Step A F H A' F' H' → Omg G.C A' F' H' w → rp A' F' H' v d → Q v H'
  | .exc x, w => ∀ cls dd A' F' H', Step A F H A' F' H' → Omg G.C A' F' H' w → XRep G.ec F' H' cls dd x → G.W cls dd σ H'
def PostL (G : Cg) (rp : List Addr → Hp → Hp → List V → List D → Prop) (Q : List V → Hp → Prop) (σ : St) (A : List Addr) (F H : Hp) : RL → Om → Prop
  | .vals ds, w => ∀ vs A' F' H', Step A F H A' F' H' → Omg G.C A' F' H' w → rp A' F' H' vs ds → Q vs H'
  | .exc x, w => ∀ cls dd A' F' H', Step A F H A' F' H' → Omg G.C A' F' H' w → XRep G.ec F' H' cls dd x → G.W cls dd σ H'
/-- an expression whose value stands for good; .. that may be a list of a slot -/
def tD (G : Cg) (e : Ex) : TE := fun σ H Q => ∃ A F r w x w', Rel G.K G.C G.M A F H σ r w ∧ e G.c r w = some (x, w') ∧ Post G (fun A F _ v d => Rt G.K A F v d) Q σ A F H x w'
def tO (G : Cg) (e : Ex) : TE := fun σ H Q => ∃ A F r w x w', Rel G.K G.C G.M A F H σ r w ∧ e G.c r w = some (x, w') ∧ Post G (fun A F H v d => Ro G.K A F H v d) Q σ A F H x w'
def tDs (G : Cg) (e : Exs) : TA := fun σ H Q => ∃ A F r w x w', Rel G.K G.C G.M A F H σ r w ∧ e G.c r w = some (x, w') ∧ PostL G (fun A F _ v d => RtAll G.K A F v d) Q σ A F H x w'
def tOs (G : Cg) (e : Exs) : TA := fun σ H Q => ∃ A F r w x w', Rel G.K G.C G.M A F H σ r w ∧ e G.c r w = some (x, w') ∧ PostL G (fun A F H v d => RoAll G.K A F H v d) Q σ A F H x w'
theorem peI {X : Cx} {e : Expr} {t t' : TE} (h : PE X e t) (i : ∀ σ H Q, t' σ H Q → t σ H Q) : PE X e t' := ⟨fun pins s σ H Q I q => h.run pins s σ H Q I (i σ H Q q)⟩
theorem paI {X : Cx} {e : List Expr} {t t' : TA} (h : PA X e t) (i : ∀ σ H Q, t' σ H Q → t σ H Q) : PA X e t' := ⟨fun pos pins s σ H Q I q => h.run pos pins s σ H Q I (i σ H Q q)⟩
theorem ptI {X : Cx} {e : Expr} {t t' : TT} (h : PT X e t) (i : ∀ σ H Q, t' σ H Q → t σ H Q) : PT X e t' := ⟨fun pins s σ H Q I q => h.run pins s σ H Q I (i σ H Q q)⟩
theorem pwI {X : Cx} {e : Expr} {t t' : TT} (h : PW X e t) (i : ∀ σ H Q, t' σ H Q → t σ H Q) : PW X e t' := ⟨fun wh pins s σ H Q I q => h.run wh pins s σ H Q I (i σ H Q q)⟩
theorem psI {X : Cx} {e : Stmt} {t t' : TS} (h : PS X e t) (i : ∀ Dd σ H, t' Dd σ H → t Dd σ H) : PS X e t' := ⟨fun pins s σ H Dd I q => h.run pins s σ H Dd I (i Dd σ H q)⟩
theorem pssI {X : Cx} {e : List Stmt} {t t' : TS} (h : PSs X e t) (i : ∀ Dd σ H, t' Dd σ H → t Dd σ H) : PSs X e t' := ⟨fun pins s σ H Dd I q => h.run pins s σ H Dd I (i Dd σ H q)⟩
theorem piI {X : Cx} {tg e : Expr} {t t' : TI} (h : PI X tg e t) (i : ∀ σ H Q, t' σ H Q → t σ H Q) : PI X tg e t' := ⟨fun pins s σ H Q I q => h.run pins s σ H Q I (i σ H Q q)⟩
theorem poOf {X : Cx} {G : Cg} {e : Expr} {d : Ex} (h : PE X e (tD G d)) : PE X e (tO G d) := peI h fun σ H Q ⟨A, F, r, w, x, w', h1, h2, h3⟩ => ⟨A, F, r, w, x, w', h1, h2, by
  cases x with
  | val d => exact fun v A' F' H' s o q => h3 v A' F' H' s o (.inl q)
  | exc x => exact h3⟩
end Rx

set_option Elab.async false
set_option linter.all false
set_option maxRecDepth 100000
set_option maxHeartbeats 1000000
set_option autoImplicit false
namespace Rx
open PySem L2

/-! ### what stands for what -/
section
variable {K : PySem.W.Frag} {A : List Addr} {F H : Hp} {v : V}
theorem Ro.int {i : Int} (h : Ro K A F H v (.int i)) : v = .int i := by
  rcases h with (h | ⟨_, _, e, _⟩ | ⟨_, _, e, _⟩ | ⟨_, _, e, _⟩) | ⟨_, _, _, _, e, _⟩
  · cases h; rfl
  · cases e
  · cases e
  · cases e
  · cases e
theorem Ro.bl {b : Bool} (h : Ro K A F H v (.bool b)) : v = .bl b := by
  rcases h with (h | ⟨_, _, e, _⟩ | ⟨_, _, e, _⟩ | ⟨_, _, e, _⟩) | ⟨_, _, _, _, e, _⟩
  · cases h; rfl
  · cases e
  · cases e
  · cases e
  · cases e
theorem Ro.str {x : Str} (h : Ro K A F H v (.str x)) : v = .str x := by
  rcases h with (h | ⟨_, _, e, _⟩ | ⟨_, _, e, _⟩ | ⟨_, _, e, _⟩) | ⟨_, _, _, _, e, _⟩
  · cases h; rfl
  · cases e
  · cases e
  · cases e
  · cases e
theorem Ro.non (h : Ro K A F H v .none) : v = .non := by
  rcases h with (h | ⟨_, _, e, _⟩ | ⟨_, _, e, _⟩ | ⟨_, _, e, _⟩) | ⟨_, _, _, _, e, _⟩
  · cases h; rfl
  · cases e
  · cases e
  · cases e
  · cases e
theorem Ro.tup {ds : List D} (h : Ro K A F H v (.tuple ds)) : ∃ a vs, v = .ref a ∧ F a = some (.tup vs) ∧ RpAll F vs ds := by
  rcases h with (h | ⟨_, _, e, _⟩ | ⟨_, _, e, _⟩ | ⟨_, _, e, _⟩) | ⟨_, _, _, _, e, _⟩
  · cases h with
    | tup e r => exact ⟨_, _, rfl, e, r⟩
  · cases e
  · cases e
  · cases e
  · cases e
theorem Ro.lst {ds : List D} (s : Same F H) (h : Ro K A F H v (.list ds)) : ∃ a vs, v = .ref a ∧ H a = some (.lst vs) ∧ RpAll F vs ds := by
  rcases h with (h | ⟨_, _, e, _⟩ | ⟨_, _, e, _⟩ | ⟨_, _, e, _⟩) | ⟨p, vs, ds', e1, e2, hp, _, r⟩
  · cases h with
    | lst e r => exact ⟨_, _, rfl, s _ _ e, r⟩
  · cases e
  · cases e
  · cases e
  · cases e2
    exact ⟨p, vs, e1, hp, r⟩
theorem Ro.script {xs : List D} (s : Same F H) (h : Ro K A F H v (.dict [(.none, .list xs)])) : ∃ (a : Addr) (ns : List Int), xs = ns.map .int ∧ v = .ref a ∧ SqL K H a (ns.map V.int) := by
  rcases h with (h | ⟨_, _, e, _⟩ | ⟨a, ns, e, ev, q⟩ | ⟨_, _, e, _⟩) | ⟨_, _, _, _, e, _⟩
  · cases h
  · unfold dObj at e; injection e with e; injection e with e _; injection e with e _; cases e
  · unfold dScript at e
    injection e with e; injection e with e _; injection e with _ e; injection e with e
    exact ⟨a, ns, e, ev, sql_mono s q⟩
  · unfold dX at e; injection e with e; injection e with e _; injection e with e _; cases e
  · cases e
theorem Ro.xt {xs : List D} (h : Ro K A F H v (.dict [(.bool true, .tuple xs)])) : ∃ (a : Addr) (ns : List Int), xs = ns.map .int ∧ v = .ref a ∧ ∃ o : Obj, F a = some (.frz o (.tup (ns.map V.int))) ∧ o.cls = .type "tuple" ∧ o.dict = none := by
  rcases h with (h | ⟨_, _, e, _⟩ | ⟨_, _, e, _⟩ | ⟨a, ns, e, ev, q⟩) | ⟨_, _, _, _, e, _⟩
  · cases h
  · unfold dObj at e; injection e with e; injection e with e _; injection e with e _; cases e
  · unfold dScript at e; injection e with e; injection e with e _; injection e with e _; cases e
  · unfold dX at e
    injection e with e; injection e with e _; injection e with _ e; injection e with e
    exact ⟨a, ns, e, ev, q⟩
  · cases e
/-- data as the library reads it -/
theorem Ro.dp {d : D} (s : Same F H) (h : Ro K A F H v d) (p : plain d = true) : Dp K H v d := by
  rcases h with h | ⟨q, vs, ds, e1, e2, hq, _, r⟩
  · exact ((h.plain p).mono s).dp
  · subst e1 e2
    exact .lst (.inl (.inl hq)) ((r.mono s).dp)
theorem dp_ints : ∀ (ns : List Int), DpAll K H (ns.map V.int) (ns.map .int)
  | [] => .nil
  | n :: ns => .cons (.int n) (dp_ints ns)
theorem Ro.dpN {d : D} (s : Same F H) (h : Ro K A F H v d) (p : plain (norm d) = true) : Dp K H v (norm d) := by
  unfold norm at p ⊢
  split at p
  · obtain ⟨a, ns, rfl, rfl, o, hf, _⟩ := h.xt
    exact .tup (.inl (.inr ⟨o, s _ _ hf⟩)) (dp_ints ns)
  · exact h.dp s p
end
theorem shal_plain : ∀ {n : Nat} {d : D}, shal n d = true → plain d = true
  | _, .none, _ => rfl
  | _, .bool _, _ => rfl
  | _, .int _, _ => rfl
  | _, .str _, _ => rfl
  | _, .list _, _ => rfl
  | _, .tuple _, _ => rfl
  | 0, .dict _, h => by simp [shal] at h
  | n + 1, .dict _, h => by simp [shal] at h

/-! ### arguments -/
section
variable {G : Cg} {σ : St} {H : Hp}
theorem tOs_nil {Q : List V → Hp → Prop} (h : tOs G dNil σ H Q) : Q [] H := by
  obtain ⟨A, F, r, w, x, w', rel, e, post⟩ := h
  cases e
  exact post [] A F H (.refl rel.fh) rel.om .nil
theorem tDs_nil {Q : List V → Hp → Prop} (h : tDs G dNil σ H Q) : Q [] H := by
  obtain ⟨A, F, r, w, x, w', rel, e, post⟩ := h
  cases e
  exact post [] A F H (.refl rel.fh) rel.om .nil
theorem tOs_cons {a : Ex} {es : Exs} {Q : List V → Hp → Prop} (h : tOs G (dCons a es) σ H Q) : tO G a σ H fun x H1 => tOs G es σ H1 fun xs H2 => Q (x :: xs) H2 := by
  obtain ⟨A, F, r, w, x, w', rel, e, post⟩ := h
  unfold dCons at e
  cases ha : a G.c r w with
  | none => rw [ha] at e; cases e
  | some p =>
    obtain ⟨x1, w1⟩ := p
    rw [ha] at e
    cases x1 with
    | exc y => cases e; exact ⟨A, F, r, w, .exc y, _, rel, ha, post⟩
    | val d =>
      refine ⟨A, F, r, w, .val d, w1, rel, ha, fun v A1 F1 H1 s1 o1 r1 => ?_⟩
      simp only at e
      cases hs : es G.c r w1 with
      | none => rw [hs] at e; cases e
      | some p =>
        obtain ⟨x2, w2⟩ := p
        rw [hs] at e
        cases x2 with
        | exc y => cases e; exact ⟨A1, F1, r, w1, .exc y, _, rel.step s1 o1, hs, fun cls dd A2 F2 H2 s2 o2 q => post cls dd A2 F2 H2 (s1.trans s2) o2 q⟩
        | vals ds => cases e; exact ⟨A1, F1, r, w1, .vals ds, _, rel.step s1 o1, hs, fun vs A2 F2 H2 s2 o2 q => post (v :: vs) A2 F2 H2 (s1.trans s2) o2 (.cons (r1.step s2) q)⟩
theorem tDs_cons {a : Ex} {es : Exs} {Q : List V → Hp → Prop} (h : tDs G (dCons a es) σ H Q) : tD G a σ H fun x H1 => tDs G es σ H1 fun xs H2 => Q (x :: xs) H2 := by
  obtain ⟨A, F, r, w, x, w', rel, e, post⟩ := h
  unfold dCons at e
  cases ha : a G.c r w with
  | none => rw [ha] at e; cases e
  | some p =>
    obtain ⟨x1, w1⟩ := p
    rw [ha] at e
    cases x1 with
    | exc y => cases e; exact ⟨A, F, r, w, .exc y, _, rel, ha, post⟩
    | val d =>
      refine ⟨A, F, r, w, .val d, w1, rel, ha, fun v A1 F1 H1 s1 o1 r1 => ?_⟩
      simp only at e
      cases hs : es G.c r w1 with
      | none => rw [hs] at e; cases e
      | some p =>
        obtain ⟨x2, w2⟩ := p
        rw [hs] at e
        cases x2 with
        | exc y => cases e; exact ⟨A1, F1, r, w1, .exc y, _, rel.step s1 o1, hs, fun cls dd A2 F2 H2 s2 o2 q => post cls dd A2 F2 H2 (s1.trans s2) o2 q⟩
        | vals ds => cases e; exact ⟨A1, F1, r, w1, .vals ds, _, rel.step s1 o1, hs, fun vs A2 F2 H2 s2 o2 q => post (v :: vs) A2 F2 H2 (s1.trans s2) o2 (.cons (r1.step s2) q)⟩
/-- what is wanted behind -/
def Fin (G : Cg) (A : List Addr) (F H : Hp) (w : Om) (d : D) (Q : VK) : Prop := ∀ v A' F' H', Step A F H A' F' H' → Omg G.C A' F' H' w → Rt G.K A' F' v d → Q v H'
/-- at the values: the data, what the primitive gives -/
def Kp (G : Cg) (p : Pr) (Q : VK) (vs : List V) (H : Hp) : Prop := ∃ A F w ds d, Same F H ∧ Omg G.C A F H w ∧ RoAll G.K A F H vs ds ∧ prim p ds = some d ∧ Fin G A F H w d Q
/-- .. operands that stand for good -/
def Kd (G : Cg) (p : Pr) (Q : VK) (vs : List V) (H : Hp) : Prop := ∃ A F w ds d, Same F H ∧ Omg G.C A F H w ∧ RtAll G.K A F vs ds ∧ prim p ds = some d ∧ Fin G A F H w d Q
theorem prim_args {p : Pr} {es : Exs} {Q : VK} (h : tD G (dPrim p es) σ H Q) : tOs G es σ H (Kp G p Q) := by
  obtain ⟨A, F, r, w, x, w', rel, e, post⟩ := h
  unfold dPrim at e
  cases hs : es G.c r w with
  | none => rw [hs] at e; cases e
  | some q =>
    obtain ⟨x1, w1⟩ := q
    rw [hs] at e
    cases x1 with
    | exc y => cases e; exact ⟨A, F, r, w, .exc y, _, rel, hs, post⟩
    | vals ds =>
      simp only at e
      cases hp : prim p ds with
      | none => rw [hp] at e; cases e
      | some d =>
        rw [hp] at e; cases e
        exact ⟨A, F, r, w, .vals ds, _, rel, hs, fun vs A1 F1 H1 s1 o1 r1 => ⟨A1, F1, _, ds, d, s1.fh, o1, r1, hp, fun v A2 F2 H2 s2 o2 r2 => post v A2 F2 H2 (s1.trans s2) o2 r2⟩⟩
theorem prim_argsD {p : Pr} {es : Exs} {Q : VK} (h : tD G (dPrim p es) σ H Q) : tDs G es σ H (Kd G p Q) := by
  obtain ⟨A, F, r, w, x, w', rel, e, post⟩ := h
  unfold dPrim at e
  cases hs : es G.c r w with
  | none => rw [hs] at e; cases e
  | some q =>
    obtain ⟨x1, w1⟩ := q
    rw [hs] at e
    cases x1 with
    | exc y => cases e; exact ⟨A, F, r, w, .exc y, _, rel, hs, post⟩
    | vals ds =>
      simp only at e
      cases hp : prim p ds with
      | none => rw [hp] at e; cases e
      | some d =>
        rw [hp] at e; cases e
        exact ⟨A, F, r, w, .vals ds, _, rel, hs, fun vs A1 F1 H1 s1 o1 r1 => ⟨A1, F1, _, ds, d, s1.fh, o1, r1, hp, fun v A2 F2 H2 s2 o2 r2 => post v A2 F2 H2 (s1.trans s2) o2 r2⟩⟩
theorem tO_imp {a : Ex} {Q Q' : VK} (h : tO G a σ H Q) (i : ∀ v H, Q v H → Q' v H) : tO G a σ H Q' := by
  obtain ⟨A, F, r, w, x, w', rel, e, post⟩ := h
  refine ⟨A, F, r, w, x, w', rel, e, ?_⟩
  cases x with
  | val d => exact fun v A' F' H' s o q => i _ _ (post v A' F' H' s o q)
  | exc x => exact post
theorem tD_imp {a : Ex} {Q Q' : VK} (h : tD G a σ H Q) (i : ∀ v H, Q v H → Q' v H) : tD G a σ H Q' := by
  obtain ⟨A, F, r, w, x, w', rel, e, post⟩ := h
  refine ⟨A, F, r, w, x, w', rel, e, ?_⟩
  cases x with
  | val d => exact fun v A' F' H' s o q => i _ _ (post v A' F' H' s o q)
  | exc x => exact post
theorem args1 {a : Ex} {Q : List V → Hp → Prop} (h : tOs G (dCons a dNil) σ H Q) : tO G a σ H fun x H1 => Q [x] H1 := tO_imp (tOs_cons h) fun _ _ h => tOs_nil h
theorem args2 {a b : Ex} {Q : List V → Hp → Prop} (h : tOs G (dCons a (dCons b dNil)) σ H Q) : tO G a σ H fun x H1 => tO G b σ H1 fun y H2 => Q [x, y] H2 := tO_imp (tOs_cons h) fun _ _ h => tO_imp (tOs_cons h) fun _ _ h => tOs_nil h
theorem args3 {a b c : Ex} {Q : List V → Hp → Prop} (h : tOs G (dCons a (dCons b (dCons c dNil))) σ H Q) : tO G a σ H fun x H1 => tO G b σ H1 fun y H2 => tO G c σ H2 fun z H3 => Q [x, y, z] H3 := tO_imp (tOs_cons h) fun _ _ h => tO_imp (tOs_cons h) fun _ _ h => tO_imp (tOs_cons h) fun _ _ h => tOs_nil h

/-! ### ends -/
variable {A : List Addr} {F : Hp} {w : Om} {d : D} {Q : VK}
theorem Fin.same (s : Same F H) (o : Omg G.C A F H w) (f : Fin G A F H w d Q) {v : V} (r : Rt G.K A F v d) : Q v H := f v A F H (.refl s) o r
theorem Fin.new {p : Addr} {u : HO} {v : V} (s : Same F H) (o : Omg G.C A F H w) (f : Fin G A F H w d Q) (n : H p = none) (r : Rp (upd F p u) v d) : Q v (upd H p u) :=
  f v A (upd F p u) (upd H p u) (.new s n) (o.new (.new s n) fun b x e => by rw [upd_ne (ne_of_none e n)]; exact e) (.inl r)
theorem Fin.tup {p : Addr} {vs : List V} {ds : List D} (s : Same F H) (o : Omg G.C A F H w) (f : Fin G A F H w (.tuple ds) Q) (n : H p = none) (r : RpAll F vs ds) : Q (.ref p) (upd H p (.tup vs)) :=
  f.new s o n (.tup upd_same (r.mono (same_upd_ (s.free n))))
where same_upd_ {F : Hp} {p : Addr} {u : HO} (h : F p = none) : Same F (upd F p u) := fun b x e => by rw [upd_ne (ne_of_none e h)]; exact e
theorem Fin.lst {p : Addr} {vs : List V} {ds : List D} (s : Same F H) (o : Omg G.C A F H w) (f : Fin G A F H w (.list ds) Q) (n : H p = none) (r : RpAll F vs ds) : Q (.ref p) (upd H p (.lst vs)) :=
  f.new s o n (.lst upd_same (r.mono (Fin.tup.same_upd_ (s.free n))))
end
end Rx

set_option Elab.async false
set_option linter.all false
set_option maxRecDepth 100000
set_option maxHeartbeats 1000000
set_option autoImplicit false
namespace Rx
open PySem L2 PySem.Spec
theorem zl {n : Nat} (h : n ≤ zL) : n ≤ sizeLine := by rw [sizeLine_eq]; unfold zL at h; omega
theorem zlt {n : Nat} (h : n < zL) : n < sizeLine := by rw [sizeLine_eq]; unfold zL at h; omega
section
variable {X : Cx} {G : Cg} {a b c : Expr} {da db dc : Ex} {pos : Pos}
/-! ### names, constants -/
theorem po_var {i : Nat} {x : Str} (hN : X.N[i]? = some x) (hv : Vis X.env.scope x) (hd : (x == ("__debug__" : Str)) = false) (hcd : (x == ("__classdict__" : Str)) = false) : PE X (.Name x pos) (tO G (dVar i)) :=
  peI (pe_var hN hv hd hcd) fun σ H Q ⟨A, F, r, w, y, w', rel, e, post⟩ => by
    unfold dVar at e
    split at e
    · rename_i d hr
      cases e
      obtain ⟨v, e1, e2⟩ := rel.ro hr
      exact ⟨v, e1, post v A F H (.refl rel.fh) rel.om e2⟩
    · cases e
theorem pd_var {i : Nat} {x : Str} (hN : X.N[i]? = some x) (hv : Vis X.env.scope x) (hd : (x == ("__debug__" : Str)) = false) (hcd : (x == ("__classdict__" : Str)) = false) (hM : G.M.contains i = false) : PE X (.Name x pos) (tD G (dVar i)) :=
  peI (pe_var hN hv hd hcd) fun σ H Q ⟨A, F, r, w, y, w', rel, e, post⟩ => by
    unfold dVar at e
    split at e
    · rename_i d hr
      cases e
      obtain ⟨v, e1, e2⟩ := rel.fro i d hr (by unfold ownd; rw [hM]; rfl)
      exact ⟨v, e1, post v A F H (.refl rel.fh) rel.om e2⟩
    · cases e
theorem pd_varM {i : Nat} {x : Str} (hN : X.N[i]? = some x) (hv : Vis X.env.scope x) (hd : (x == ("__debug__" : Str)) = false) (hcd : (x == ("__classdict__" : Str)) = false) : PE X (.Name x pos) (tD G (dVarM i)) :=
  peI (pe_var hN hv hd hcd) fun σ H Q ⟨A, F, r, w, y, w', rel, e, post⟩ => by
    unfold dVarM at e
    split at e
    · rename_i d hr
      split at e
      · cases e
      · rename_i hl
        cases e
        obtain ⟨v, e1, e2⟩ := rel.fro i d hr (by unfold ownd; rw [Bool.eq_false_iff.mpr hl, Bool.and_false])
        exact ⟨v, e1, post v A F H (.refl rel.fh) rel.om e2⟩
    · cases e
theorem tC_of {v : V} {d : D} (r : ∀ F, Rp F v d) {σ : St} {H : Hp} {Q : VK} (h : tD G (dC d) σ H Q) : tC v σ H Q := by
  obtain ⟨A, F, r', w, y, w', rel, e, post⟩ := h
  cases e
  exact post v A F H (.refl rel.fh) rel.om (.inl (r F))
theorem pd_int {i : Int} {j : Nat} : PE X (.Constant (.int i) j pos) (tD G (dC (.int i))) := peI pe_int fun _ _ _ h => tC_of (fun _ => .int i) h
theorem pd_bl {i : Bool} {j : Nat} : PE X (.Constant (.bool i) j pos) (tD G (dC (.bool i))) := peI pe_bl fun _ _ _ h => tC_of (fun _ => .bl i) h
theorem pd_non {j : Nat} : PE X (.Constant .none j pos) (tD G (dC .none)) := peI pe_non fun _ _ _ h => tC_of (fun _ => .non) h
theorem pd_str {x : Str} {j : Nat} : PE X (.Constant (.str x) j pos) (tD G (dC (.str x))) := peI pe_str fun _ _ _ h => tC_of (fun _ => .str x) h
theorem pd_glob {x : Str} {d : D} {v : V} {u : Value} (hg : Gl X x) (hm : X.mg x = some u) (r : RelV v u) (rp : ∀ F, Rp F v d) (hd : (x == ("__debug__" : Str)) = false) : PE X (.Name x pos) (tD G (dC d)) := peI (pe_glob hg hm r hd) fun _ _ _ h => tC_of rp h

/-! ### operators -/
theorem RoAll2 {K : PySem.W.Frag} {A : List Addr} {F H : Hp} {x y : V} {ds : List D} (h : RoAll K A F H [x, y] ds) : ∃ d e, ds = [d, e] ∧ Ro K A F H x d ∧ Ro K A F H y e := by
  cases h with
  | cons a t =>
    cases t with
    | cons b u => cases u; exact ⟨_, _, rfl, a, b⟩
theorem RoAll1 {K : PySem.W.Frag} {A : List Addr} {F H : Hp} {x : V} {ds : List D} (h : RoAll K A F H [x] ds) : ∃ d, ds = [d] ∧ Ro K A F H x d := by
  cases h with
  | cons a t => cases t; exact ⟨_, rfl, a⟩
theorem pd_bin {op : Operator} {p : Pr} {r : R2} (ho : OpR X (binaryOp op) r) (hp : ∀ Q x y H, Kp G p Q [x, y] H → r x y H Q) (ha : PE X a (tO G da)) (hb : PE X b (tO G db)) : PE X (.BinOp a op b pos) (tD G (dPrim p (dCons da (dCons db dNil)))) :=
  peI (pe_op ho ha hb) fun σ H Q h => tO_imp (args2 (prim_args h)) fun x H1 q => tO_imp q fun y H2 k => hp Q x y H2 k
theorem pd_un {op : UnaryOp} {p : Pr} {r : V → Hp → VK → Prop} (ho : UnR X (unaryOp op) r) (hp : ∀ Q x H, Kp G p Q [x] H → r x H Q) (ha : PE X a (tO G da)) : PE X (.UnaryOp op a pos) (tD G (dPrim p (dCons da dNil))) :=
  peI (pe_un ho ha) fun σ H Q h => tO_imp (args1 (prim_args h)) fun x H1 k => hp Q x H1 k
theorem op_rep' : OpR X (binaryOp .Mult) rRep := op_rep
theorem pd_add (ha : PE X a (tO G da)) (hb : PE X b (tO G db)) : PE X (.BinOp a .Add b pos) (tD G (dPrim .add (dCons da (dCons db dNil)))) := by
  refine pd_bin (((op_add.or op_add_str).or op_catA).or op_cat) (fun Q x y H ⟨A, F, w, ds, d, s, o, ro, e, f⟩ => ?_) ha hb
  obtain ⟨d1, d2, rfl, r1, r2⟩ := RoAll2 ro
  replace e : addP d1 d2 = some d := e
  unfold addP at e
  split at e
  · cases e
    exact .inl (.inl (.inl ⟨_, _, r1.int, r2.int, f.same s o (.inl (.int _))⟩))
  · split at e
    · rename_i hz; cases e
      exact .inl (.inl (.inr ⟨_, _, r1.str, r2.str, zl hz, f.same s o (.inl (.str _))⟩))
    · cases e
  · split at e
    · rename_i hz; cases e
      obtain ⟨a1, v1, rfl, f1, q1⟩ := r1.tup
      obtain ⟨a2, v2, rfl, f2, q2⟩ := r2.tup
      refine .inl (.inr ⟨a1, a2, v1, v2, rfl, rfl, .inl (.inl (s _ _ f1)), .inl (.inl (s _ _ f2)), by rw [q1.length, q2.length]; exact zl hz, fun z => ?_, fun _ z => ?_, fun _ _ p hp => f.tup s o hp (q1.append q2)⟩)
      · subst z; cases q1; exact f.same s o (.inl (.tup f2 q2))
      · subst z; cases q2; rw [List.append_nil] at f; exact f.same s o (.inl (.tup f1 q1))
    · cases e
  · split at e
    · rename_i hz; cases e
      obtain ⟨a1, v1, rfl, f1, q1⟩ := r1.lst s
      obtain ⟨a2, v2, rfl, f2, q2⟩ := r2.lst s
      exact .inr ⟨a1, a2, v1, v2, rfl, rfl, f1, f2, by rw [q1.length, q2.length]; exact zl hz, fun p hp => f.lst s o hp (q1.append q2)⟩
    · cases e
  · cases e
theorem pd_sub (ha : PE X a (tO G da)) (hb : PE X b (tO G db)) : PE X (.BinOp a .Sub b pos) (tD G (dPrim .sub (dCons da (dCons db dNil)))) := by
  refine pd_bin op_sub (fun Q x y H ⟨A, F, w, ds, d, s, o, ro, e, f⟩ => ?_) ha hb
  obtain ⟨d1, d2, rfl, r1, r2⟩ := RoAll2 ro
  replace e : subP d1 d2 = some d := e
  unfold subP at e
  split at e
  · cases e; exact ⟨_, _, r1.int, r2.int, f.same s o (.inl (.int _))⟩
  · cases e

/-- t * 1 is t -/
theorem tuple_mul1 (l : Addr) (items : Array Value) (n : Nat) (dd : Option Addr) (sl : Array (Option Value)) (u : Tok) :
    Meets (Builtin.«tuple.__mul__» ⟨[.ref l, .int 1 u], []⟩) (fun _ R s => s.heap.get? l = some { cls := .type "tuple", dict := dd, data := .seq items n, slots := sl } ∧ R (.ok (.ret (.ref l))) s) :=
  .of_wp fun prog w A R s h => by
    obtain ⟨hp, g, d, tk, os⟩ := s
    obtain ⟨hl, h⟩ := h
    have f1 := AutoSeq1.idx_int
    wp_walk using wpAny_loadPart' hl
    exact ⟨_, rfl, h⟩
theorem op_repT1 : OpR X (binaryOp .Mult) (fun x y H Q => ∃ l xs, x = .ref l ∧ y = .int 1 ∧ SqT X.K H l xs ∧ Q (.ref l) H) := by
  intro pins s σ H x y v u Q I rx ry h
  obtain ⟨l, xs, rfl, rfl, hT, q⟩ := h
  cases rx
  obtain ⟨t, rfl⟩ := ry
  obtain ⟨its, r, ⟨⟨cls, dd, data, sl⟩, ho, hc, n, hd⟩, hs⟩ := I.tuple hT
  simp only at hc hd
  subst hc hd
  exact wpAny_binaryOp_repeat_ref (T := "tuple") (U := "int") (by decide) ⟨_, ho, rfl⟩ (fun s' => typeIs_int s' 1 t) noFill_tuple_mul F.fills_int_mul F.slot_int_rmul repeat_tuple F.slot_int_index.lookup
    (call_meets F.slot_int_rmul (typeIs_int s 1 t) F.entry_int_rmul (F.args_int_rmul_2 _ _) (int_rmul_tuple 1 t l its.toArray n dd sl)
      ⟨ho, rfl, ⟨_, ho, rfl⟩, call_meets F.slot_tuple_mul ⟨_, ho, rfl⟩ F.entry_tuple_mul (F.args_tuple_mul_2 _ _) (tuple_mul1 l its.toArray n dd sl t) ⟨ho, ⟨.ref l, H, I, rfl, q⟩⟩⟩)
theorem pd_mul (ha : PE X a (tO G da)) (hb : PE X b (tO G db)) : PE X (.BinOp a .Mult b pos) (tD G (dPrim .mul (dCons da (dCons db dNil)))) := by
  refine pd_bin (((op_mul.or op_rep).or op_repT).or op_repT1) (fun Q x y H ⟨A, F, w, ds, d, s, o, ro, e, f⟩ => ?_) ha hb
  obtain ⟨d1, d2, rfl, r1, r2⟩ := RoAll2 ro
  replace e : mulP d1 d2 = some d := e
  unfold mulP at e
  split at e
  · split at e
    · rename_i hz; cases e
      refine .inl (.inl (.inl ⟨_, _, r1.int, r2.int, ?_, f.same s o (.inl (.int _))⟩))
      rw [Bool.or_eq_true] at hz
      unfold small at hz
      simp only [Bool.and_eq_true, decide_eq_true_eq] at hz
      exact hz
    · cases e
  · split at e
    · rename_i hz; cases e
      obtain ⟨a1, v1, rfl, f1, q1⟩ := r1.lst s
      refine .inl (.inl (.inr ⟨a1, _, v1, rfl, r2.int, f1, by omega, by omega, ?_, fun p hp => f.lst s o hp (rp_rep q1 _)⟩))
      rw [q1.length, sizeLine_eq]
      have h1 := hz.2.2
      rename_i xs k _
      have h2 : k.toNat ≤ 1000 := by omega
      exact Nat.le_trans (Nat.mul_le_mul h1 h2) (by decide)
    · cases e
  · split at e
    · rename_i hz; cases e
      obtain ⟨a1, v1, rfl, f1, q1⟩ := r1.tup
      rename_i xs k _
      by_cases hk : k = 1
      · subst hk
        have e1 : (List.replicate (1 : Int).toNat xs).flatten = xs := by simp
        rw [e1] at f
        exact .inr ⟨a1, v1, rfl, r2.int, .inl (.inl (s _ _ f1)), f.same s o (.inl (.tup f1 q1))⟩
      · refine .inl (.inr ⟨a1, _, v1, rfl, r2.int, .inl (.inl (s _ _ f1)), ?_, by omega, hz.2.1, by rw [q1.length]; exact hz.2.2.1, fun p hp => f.tup s o hp (rp_rep q1 _)⟩)
        intro z; subst z; cases q1; exact hz.2.2.2 rfl
    · cases e
  · cases e
where rp_rep {F : Hp} {vs : List V} {ds : List D} (r : RpAll F vs ds) : ∀ n, RpAll F (List.replicate n vs).flatten (List.replicate n ds).flatten
  | 0 => .nil
  | n + 1 => by rw [List.replicate_succ, List.replicate_succ, List.flatten_cons, List.flatten_cons]; exact r.append (rp_rep r n)
theorem pd_fdiv (ha : PE X a (tO G da)) (hb : PE X b (tO G db)) : PE X (.BinOp a .FloorDiv b pos) (tD G (dPrim .fdiv (dCons da (dCons db dNil)))) := by
  refine pd_bin op_fdiv (fun Q x y H ⟨A, F, w, ds, d, s, o, ro, e, f⟩ => ?_) ha hb
  obtain ⟨d1, d2, rfl, r1, r2⟩ := RoAll2 ro
  replace e : fdivP d1 d2 = some d := e
  unfold fdivP at e
  split at e
  · split at e
    · rename_i hz; cases e; exact ⟨_, _, r1.int, r2.int, hz, f.same s o (.inl (.int _))⟩
    · cases e
  · cases e
theorem pd_mod (ha : PE X a (tO G da)) (hb : PE X b (tO G db)) : PE X (.BinOp a .Mod b pos) (tD G (dPrim .mod (dCons da (dCons db dNil)))) := by
  refine pd_bin op_mod (fun Q x y H ⟨A, F, w, ds, d, s, o, ro, e, f⟩ => ?_) ha hb
  obtain ⟨d1, d2, rfl, r1, r2⟩ := RoAll2 ro
  replace e : modP d1 d2 = some d := e
  unfold modP at e
  split at e
  · split at e
    · rename_i hz; cases e; exact ⟨_, _, r1.int, r2.int, hz, f.same s o (.inl (.int _))⟩
    · cases e
  · cases e
theorem pd_pow (ha : PE X a (tO G da)) (hb : PE X b (tO G db)) : PE X (.BinOp a .Pow b pos) (tD G (dPrim .pow (dCons da (dCons db dNil)))) := by
  refine pd_bin op_pow (fun Q x y H ⟨A, F, w, ds, d, s, o, ro, e, f⟩ => ?_) ha hb
  obtain ⟨d1, d2, rfl, r1, r2⟩ := RoAll2 ro
  replace e : powP d1 d2 = some d := e
  unfold powP at e
  split at e
  · split at e
    · rename_i i j hz; cases e
      have h2 := hz.2.2
      unfold small at h2
      simp only [Bool.and_eq_true, decide_eq_true_eq] at h2
      exact ⟨_, _, r1.int, r2.int, ⟨hz.1, by omega, by omega⟩, f.same s o (.inl (.int _))⟩
    · cases e
  · cases e
theorem pd_neg (ha : PE X a (tO G da)) : PE X (.UnaryOp .USub a pos) (tD G (dPrim .neg (dCons da dNil))) := by
  refine pd_un un_neg (fun Q x H ⟨A, F, w, ds, d, s, o, ro, e, f⟩ => ?_) ha
  obtain ⟨d1, rfl, r1⟩ := RoAll1 ro
  replace e : negP d1 = some d := e
  unfold negP at e
  split at e
  · cases e; exact ⟨_, r1.int, f.same s o (.inl (.int _))⟩
  · cases e

/-! ### == -/
mutual
theorem dpPl {K : PySem.W.Frag} {H : Hp} : ∀ (d : D) (v : V), Dp K H v d → PyData.plain d = true
  | .none, _, h => rfl
  | .bool b, _, h => rfl
  | .int i, _, h => rfl
  | .str x, _, h => rfl
  | .list ds, _, h => by
    cases h with
    | lst e r => rw [PyData.plain]; exact dpPlAll ds _ r
  | .tuple ds, _, h => by
    cases h with
    | tup e r => rw [PyData.plain]; exact dpPlAll ds _ r
  | .dict _, _, h => by cases h
theorem dpPlAll {K : PySem.W.Frag} {H : Hp} : ∀ (ds : List D) (vs : List V), DpAll K H vs ds → PyData.plainAll ds = true
  | [], _, h => rfl
  | d :: ds, _, h => by
    cases h with
    | cons r t => rw [PyData.plainAll, dpPl d _ r, dpPlAll ds _ t]; rfl
end
mutual
theorem eqd_eqv : ∀ a b : D, eqd a b = PyData.eqv a b
  | .none, b => by cases b <;> simp [eqd, PyData.eqv]
  | .bool x, b => by cases b <;> simp [eqd, PyData.eqv]
  | .int i, b => by cases b <;> simp [eqd, PyData.eqv]
  | .str x, b => by cases b <;> simp [eqd, PyData.eqv]
  | .list xs, b => by
    cases b with
    | list ys => rw [eqd, PyData.eqv]; exact eqdAll_eqv xs ys
    | _ => simp [eqd, PyData.eqv]
  | .tuple xs, b => by
    cases b with
    | tuple ys => rw [eqd, PyData.eqv]; exact eqdAll_eqv xs ys
    | _ => simp [eqd, PyData.eqv]
  | .dict x, b => by cases b <;> simp [eqd, PyData.eqv]
theorem eqdAll_eqv : ∀ xs ys : List D, eqdAll xs ys = PyData.eqvAll xs ys
  | [], ys => by cases ys <;> simp [eqdAll, PyData.eqvAll]
  | x :: xs, [] => by simp [eqdAll, PyData.eqvAll]
  | x :: xs, y :: ys => by rw [eqdAll, PyData.eqvAll, eqd_eqv x y, eqdAll_eqv xs ys]
end
theorem depth_le : ∀ (n : Nat) (d : D), shal n d = true → d.depth ≤ n
  | n, .none, _ => by simp [PyData.depth]
  | n, .bool _, _ => by simp [PyData.depth]
  | n, .int _, _ => by simp [PyData.depth]
  | n, .str _, _ => by simp [PyData.depth]
  | 0, .list _, h => by simp [shal] at h
  | 0, .tuple _, h => by simp [shal] at h
  | 0, .dict _, h => by simp [shal] at h
  | n + 1, .dict _, h => by simp [shal] at h
  | n + 1, .list ds, h => by
    rw [shal] at h
    rw [PyData.depth]
    have := all_le n ds (fun d hd => depth_le n d (List.all_eq_true.mp h d hd))
    omega
  | n + 1, .tuple ds, h => by
    rw [shal] at h
    rw [PyData.depth]
    have := all_le n ds (fun d hd => depth_le n d (List.all_eq_true.mp h d hd))
    omega
where all_le (n : Nat) : ∀ (ds : List D), (∀ d ∈ ds, d.depth ≤ n) → PyData.depthAll ds ≤ n
  | [], _ => by simp [PyData.depthAll]
  | d :: ds, h => by
    rw [PyData.depthAll]
    have h1 := h d List.mem_cons_self
    have h2 := all_le n ds fun e he => h e (List.mem_cons_of_mem _ he)
    omega
theorem eqOk_of {a b : D} (h : eqOk a b = true) : plain a = true ∧ plain b = true ∧ min a.depth b.depth ≤ 8 := by
  unfold eqOk at h
  simp only [Bool.and_eq_true, Bool.or_eq_true] at h
  refine ⟨h.1.1, h.1.2, ?_⟩
  rcases h.2 with h | h
  · have := depth_le 8 a h; omega
  · have := depth_le 8 b h; omega
def rEqK (K : PySem.W.Frag) (f : Bool → Bool) : R2 := fun x y H Q => ∃ d e, Dp K H x d ∧ Dp K H y e ∧ min d.depth e.depth ≤ 8 ∧ Q (.bl (f (PyData.eqv d e))) H
theorem op_eqK (hu : X.A.units + 64 < cLine) : OpR X (compareOp .Eq) (rEqK X.K id) := by
  intro pins s σ H x y v u Q I rx ry h
  obtain ⟨d, e, hd, he, hl, q⟩ := h
  obtain ⟨as, r1⟩ := Dp.reads I d x v hd rx
  obtain ⟨bs, r2⟩ := Dp.reads I e y u he ry
  exact SeqAt.eq_plain r1 r2 (dpPl _ _ hd) (dpPl _ _ he) (by omega) ⟨.bl _, H, I, rfl, q⟩
theorem op_neK (hu : X.A.units + 64 < cLine) : OpR X (compareOp .NotEq) (rEqK X.K not) := by
  intro pins s σ H x y v u Q I rx ry h
  obtain ⟨d, e, hd, he, hl, q⟩ := h
  obtain ⟨as, r1⟩ := Dp.reads I d x v hd rx
  obtain ⟨bs, r2⟩ := Dp.reads I e y u he ry
  exact SeqAt.ne_plain r1 r2 (dpPl _ _ hd) (dpPl _ _ he) (by omega) ⟨.bl _, H, I, rfl, q⟩

/-! ### comparisons -/
/-- what a comparison's rule gives of the data -/
def CmpS (X : Cx) (G : Cg) (op : CmpOp) (p : Pr) : Prop := ∃ r, OpR X (compareOp op) r ∧ ∀ Q x y H, Kp G p Q [x, y] H → r x y H Q
theorem cs_eq (hK : G.K = X.K) (hu : X.A.units + 64 < cLine) : CmpS X G .Eq .eq := ⟨_, op_eqK hu, fun Q x y H ⟨A, F, w, ds, d, s, o, ro, e, f⟩ => by
  obtain ⟨d1, d2, rfl, r1, r2⟩ := RoAll2 ro
  replace e : eqP d1 d2 = some d := e
  unfold eqP at e
  split at e
  · rename_i h; cases e
    obtain ⟨h1, h2, h3⟩ := eqOk_of h
    refine ⟨norm d1, norm d2, hK ▸ r1.dpN s h1, hK ▸ r2.dpN s h2, h3, ?_⟩
    rw [← eqd_eqv]
    exact f.same s o (.inl (.bl _))
  · cases e⟩
theorem cs_ne (hK : G.K = X.K) (hu : X.A.units + 64 < cLine) : CmpS X G .NotEq .ne := ⟨_, op_neK hu, fun Q x y H ⟨A, F, w, ds, d, s, o, ro, e, f⟩ => by
  obtain ⟨d1, d2, rfl, r1, r2⟩ := RoAll2 ro
  replace e : neP d1 d2 = some d := e
  unfold neP at e
  split at e
  · rename_i h; cases e
    obtain ⟨h1, h2, h3⟩ := eqOk_of h
    refine ⟨norm d1, norm d2, hK ▸ r1.dpN s h1, hK ▸ r2.dpN s h2, h3, ?_⟩
    rw [← eqd_eqv]
    exact f.same s o (.inl (.bl _))
  · cases e⟩
theorem cmpP_of {G : Cg} {g : Int → Int → Bool} {Q : VK} {x y : V} {H : Hp} {A : List Addr} {F : Hp} {w : Om} {d1 d2 d : D} (s : Same F H) (o : Omg G.C A F H w) (r1 : Ro G.K A F H x d1) (r2 : Ro G.K A F H y d2) (e : cmpP g d1 d2 = some d) (f : Fin G A F H w d Q) : ∃ i j, x = .int i ∧ y = .int j ∧ Q (.bl (g i j)) H := by
  unfold cmpP at e
  split at e
  · cases e; exact ⟨_, _, r1.int, r2.int, f.same s o (.inl (.bl _))⟩
  · cases e
theorem cs_lt : CmpS X G .Lt .lt := ⟨_, op_lt, fun Q x y H ⟨A, F, w, ds, d, s, o, ro, e, f⟩ => by
  obtain ⟨d1, d2, rfl, r1, r2⟩ := RoAll2 ro
  exact cmpP_of s o r1 r2 e f⟩
theorem cs_le : CmpS X G .LtE .le := ⟨_, op_le, fun Q x y H ⟨A, F, w, ds, d, s, o, ro, e, f⟩ => by
  obtain ⟨d1, d2, rfl, r1, r2⟩ := RoAll2 ro
  exact cmpP_of s o r1 r2 e f⟩
theorem cs_gt : CmpS X G .Gt .gt := ⟨_, op_gt, fun Q x y H ⟨A, F, w, ds, d, s, o, ro, e, f⟩ => by
  obtain ⟨d1, d2, rfl, r1, r2⟩ := RoAll2 ro
  exact cmpP_of s o r1 r2 e f⟩
theorem cs_ge : CmpS X G .GtE .ge := ⟨_, op_ge, fun Q x y H ⟨A, F, w, ds, d, s, o, ro, e, f⟩ => by
  obtain ⟨d1, d2, rfl, r1, r2⟩ := RoAll2 ro
  exact cmpP_of s o r1 r2 e f⟩
theorem ro_none {K : PySem.W.Frag} {A : List Addr} {F H : Hp} {v : V} {d : D} (h : Ro K A F H v d) (p : plain d = true) : decide (v = .non) = isNone d := by
  cases d with
  | none => rw [h.non]; rfl
  | bool b => rw [h.bl]; rfl
  | int i => rw [h.int]; rfl
  | str x => rw [h.str]; rfl
  | list ds =>
    rcases h with h | ⟨p, vs, ds', e1, _⟩
    · cases h.plain p with
      | lst e r => rfl
    · rw [e1]; rfl
  | tuple ds => obtain ⟨a, vs, e, _⟩ := h.tup; rw [e]; rfl
  | dict _ => cases p
theorem cs_isN : ∀ Q x H, Kp G .isN Q [x] H → (V.non = V.non ∧ Q (.bl (decide (x = .non))) H) := fun Q x H ⟨A, F, w, ds, d, s, o, ro, e, f⟩ => by
  obtain ⟨d1, rfl, r1⟩ := RoAll1 ro
  replace e : tstP isNone d1 = some d := e
  unfold tstP at e
  split at e
  · rename_i h; cases e
    refine ⟨rfl, ?_⟩
    rw [ro_none r1 h]
    exact f.same s o (.inl (.bl _))
  · cases e
theorem cs_notN : ∀ Q x H, Kp G .notN Q [x] H → (V.non = V.non ∧ Q (.bl (!decide (x = .non))) H) := fun Q x H ⟨A, F, w, ds, d, s, o, ro, e, f⟩ => by
  obtain ⟨d1, rfl, r1⟩ := RoAll1 ro
  replace e : tstP (fun d => !isNone d) d1 = some d := e
  unfold tstP at e
  split at e
  · rename_i h; cases e
    refine ⟨rfl, ?_⟩
    rw [ro_none r1 h]
    exact f.same s o (.inl (.bl _))
  · cases e
theorem str_one {y : Str} {c : Nat} (h : y.cps.toList = [c]) : y = ⟨#[c]⟩ := by
  cases y with
  | mk cps => exact congrArg Str.mk (Array.toList_inj.mp h)
/-- x in c, for data -/
def rInK (K : PySem.W.Frag) (f : Bool → Bool) : R2 := fun x y H Q => ∃ d ds, Dp K H x d ∧ (Dp K H y (.list ds) ∨ Dp K H y (.tuple ds)) ∧ min (PyData.depthAll ds) d.depth ≤ 8 ∧ Q (.bl (f (ds.any fun z => PyData.eqv z d))) H
theorem op_inK (hu : X.A.units + 64 < cLine) : OpR X (compareOp .In) (rInK X.K id) := by
  intro pins s σ H x y v u Q I rx ry h
  obtain ⟨d, ds, hd, he, hl, q⟩ := h
  obtain ⟨as, r1⟩ := Dp.reads I d x v hd rx
  rcases he with he | he
  · obtain ⟨bs, r2⟩ := Dp.reads I _ y u he ry
    exact SeqAt.in_list_data r2 r1 (by have := dpPl _ _ he; rwa [PyData.plain] at this) (dpPl _ _ hd) (by omega) ⟨.bl _, H, I, rfl, q⟩
  · obtain ⟨bs, r2⟩ := Dp.reads I _ y u he ry
    exact SeqAt.in_tuple_data r2 r1 (by have := dpPl _ _ he; rwa [PyData.plain] at this) (dpPl _ _ hd) (by omega) ⟨.bl _, H, I, rfl, q⟩
theorem op_notinK (hu : X.A.units + 64 < cLine) : OpR X (compareOp .NotIn) (rInK X.K not) := by
  intro pins s σ H x y v u Q I rx ry h
  obtain ⟨d, ds, hd, he, hl, q⟩ := h
  obtain ⟨as, r1⟩ := Dp.reads I d x v hd rx
  rcases he with he | he
  · obtain ⟨bs, r2⟩ := Dp.reads I _ y u he ry
    exact SeqAt.notIn_list_data r2 r1 (by have := dpPl _ _ he; rwa [PyData.plain] at this) (dpPl _ _ hd) (by omega) ⟨.bl _, H, I, rfl, q⟩
  · obtain ⟨bs, r2⟩ := Dp.reads I _ y u he ry
    exact SeqAt.notIn_tuple_data r2 r1 (by have := dpPl _ _ he; rwa [PyData.plain] at this) (dpPl _ _ hd) (by omega) ⟨.bl _, H, I, rfl, q⟩
theorem in_of (hK : G.K = X.K) {x y : V} {H : Hp} {A : List Addr} {F : Hp} {d1 d2 : D} {b : Bool} (s : Same F H) (r1 : Ro G.K A F H x d1) (r2 : Ro G.K A F H y d2) (e : inP d1 d2 = some b) :
    (∃ ds, Dp X.K H x d1 ∧ (Dp X.K H y (.list ds) ∨ Dp X.K H y (.tuple ds)) ∧ min (PyData.depthAll ds) d1.depth ≤ 8 ∧ (ds.any fun z => PyData.eqv z d1) = b) ∨ (∃ (c : Nat) (z : Str), x = .str ⟨#[c]⟩ ∧ y = .str z ∧ decide (c ∈ z.cps.toList) = b) := by
  unfold inP at e
  split at e
  · split at e
    · rename_i ys h; cases e
      obtain ⟨h1, h2, h3⟩ := eqOk_of h
      rw [PyData.depth] at h3
      refine .inl ⟨ys, hK ▸ r1.dp s h1, .inl (hK ▸ r2.dp s h2), by omega, ?_⟩
      congr 1; funext z; rw [eqd_eqv]
    · cases e
  · split at e
    · rename_i ys h; cases e
      obtain ⟨h1, h2, h3⟩ := eqOk_of h
      rw [PyData.depth] at h3
      refine .inl ⟨ys, hK ▸ r1.dp s h1, .inr (hK ▸ r2.dp s h2), by omega, ?_⟩
      congr 1; funext z; rw [eqd_eqv]
    · cases e
  · split at e
    · split at e
      · rename_i c hc; cases e
        refine .inr ⟨c, _, ?_, r2.str, rfl⟩
        rw [r1.str, str_one hc]
      · cases e
    · cases e
  · cases e
theorem cs_in (hK : G.K = X.K) (hu : X.A.units + 64 < cLine) : CmpS X G .In .isin := ⟨_, (op_inK hu).or op_in_sign, fun Q x y H ⟨A, F, w, ds, d, s, o, ro, e, f⟩ => by
  obtain ⟨d1, d2, rfl, r1, r2⟩ := RoAll2 ro
  replace e : (inP d1 d2).map PyData.bool = some d := e
  cases hb : inP d1 d2 with
  | none => rw [hb] at e; cases e
  | some b =>
    rw [hb] at e; cases e
    have q := f.same s o (.inl (.bl b))
    rcases in_of hK s r1 r2 hb with ⟨ds, h1, h2, h3, h4⟩ | ⟨c, z, h1, h2, h3⟩
    · exact .inl ⟨d1, ds, h1, h2, h3, by rw [h4]; exact q⟩
    · exact .inr ⟨c, z, h1, h2, by rw [h3]; exact q⟩⟩
theorem cs_notin (hK : G.K = X.K) (hu : X.A.units + 64 < cLine) : CmpS X G .NotIn .notin := ⟨_, (op_notinK hu).or op_notIn_sign, fun Q x y H ⟨A, F, w, ds, d, s, o, ro, e, f⟩ => by
  obtain ⟨d1, d2, rfl, r1, r2⟩ := RoAll2 ro
  replace e : (inP d1 d2).map (fun b => PyData.bool (!b)) = some d := e
  cases hb : inP d1 d2 with
  | none => rw [hb] at e; cases e
  | some b =>
    rw [hb] at e; cases e
    have q := f.same s o (.inl (.bl (!b)))
    rcases in_of hK s r1 r2 hb with ⟨ds, h1, h2, h3, h4⟩ | ⟨c, z, h1, h2, h3⟩
    · exact .inl ⟨d1, ds, h1, h2, h3, by rw [h4]; exact q⟩
    · exact .inr ⟨c, z, h1, h2, by rw [h3]; exact q⟩⟩
theorem pd_cmp {op : CmpOp} {p : Pr} (h : CmpS X G op p) (ha : PE X a (tO G da)) (hb : PE X b (tO G db)) (hm : behindInMarks op b = false) : PE X (.Compare a [op] [b] pos) (tD G (dPrim p (dCons da (dCons db dNil)))) := by
  obtain ⟨r, ho, hp⟩ := h
  exact peI (pe_cmpR ho ha hb hm) fun σ H Q h => tO_imp (args2 (prim_args h)) fun x H1 q => tO_imp q fun y H2 k => hp Q x y H2 k
theorem pd_isN {j : Nat} {p2 : Pos} (ha : PE X a (tO G da)) : PE X (.Compare a [.Is] [.Constant .none j p2] pos) (tD G (dPrim .isN (dCons da dNil))) :=
  peI (pe_cmpR op_isN ha pe_non rfl) fun σ H Q h => tO_imp (args1 (prim_args h)) fun x H1 k => cs_isN Q x H1 k
theorem pd_notN {j : Nat} {p2 : Pos} (ha : PE X a (tO G da)) : PE X (.Compare a [.IsNot] [.Constant .none j p2] pos) (tD G (dPrim .notN (dCons da dNil))) :=
  peI (pe_cmpR op_notN ha pe_non rfl) fun σ H Q h => tO_imp (args1 (prim_args h)) fun x H1 k => cs_notN Q x H1 k

/-! ### tests -/
def PostT (G : Cg) (Q : Bool → Hp → Prop) (σ : St) (A : List Addr) (F H : Hp) : R → Om → Prop
  | .val d, w => ∃ b, truth d = some b ∧ ∀ A' F' H', Step A F H A' F' H' → Omg G.C A' F' H' w → Q b H'
  | .exc x, w => ∀ cls dd A' F' H', Step A F H A' F' H' → Omg G.C A' F' H' w → XRep G.ec F' H' cls dd x → G.W cls dd σ H'
def tT (G : Cg) (e : Ex) : TT := fun σ H Q => ∃ A F r w x w', Rel G.K G.C G.M A F H σ r w ∧ e G.c r w = some (x, w') ∧ PostT G Q σ A F H x w'
theorem truV_of (hK : G.K = X.K) {A : List Addr} {F H : Hp} {v : V} {d : D} {b : Bool} (s : Same F H) (r : Ro G.K A F H v d) (e : truth d = some b) : TruV X.K v H b := by
  cases d with
  | none => rw [r.non]; cases e; rfl
  | bool c => rw [r.bl]; cases e; rfl
  | int i => rw [r.int]; cases e; rfl
  | str x =>
    rw [r.str]
    replace e : (if x.length ≤ zL then some ((x.length : Int) != 0) else none) = some b := e
    split at e
    · rename_i h; cases e; exact ⟨zl h, rfl⟩
    · cases e
  | list ds =>
    obtain ⟨a, vs, rfl, h, q⟩ := r.lst s
    cases e
    exact .inl ⟨vs, .inl (.inl h), by cases q <;> rfl⟩
  | tuple ds =>
    obtain ⟨a, vs, rfl, h, q⟩ := r.tup
    cases e
    exact .inr (.inl ⟨vs, .inl (.inl (s _ _ h)), by cases q <;> rfl⟩)
  | dict _ => cases e
/-- a test by its value's truth -/
theorem pt_of (hK : G.K = X.K) (ha : PE X a (tO G da)) (he : ∀ whole, isTrue a X.env whole = (do let v ← whole; standAt a.pos; holding [v] (truthy v))) : PT X a (tT G da) :=
  ptI (pt_truth ha he) fun σ H Q ⟨A, F, r, w, x, w', rel, e, post⟩ => ⟨A, F, r, w, x, w', rel, e, by
    cases x with
    | exc x => exact post
    | val d =>
      obtain ⟨b, hb, q⟩ := post
      exact fun v A' F' H' s o ro => ⟨b, truV_of hK s.fh ro hb, q A' F' H' s o⟩⟩
/-- comparisons give bools -/
theorem tT_bool (hb : ∀ c r w d w', da c r w = some (.val d, w') → ∃ b, d = .bool b) {σ : St} {H : Hp} {Q : Bool → Hp → Prop} (h : tT G da σ H Q) : tD G da σ H fun x H' => ∃ k, x = .bl k ∧ Q k H' := by
  obtain ⟨A, F, r, w, x, w', rel, e, post⟩ := h
  refine ⟨A, F, r, w, x, w', rel, e, ?_⟩
  cases x with
  | exc x => exact post
  | val d =>
    obtain ⟨b, rfl⟩ := hb _ _ _ _ _ e
    obtain ⟨b', h1, q⟩ := post
    cases h1
    exact fun v A' F' H' s o ro => ⟨b, (Ro.bl (H := H') (.inl ro)), q A' F' H' s o⟩
theorem pt_bool (hb : ∀ c r w d w', da c r w = some (.val d, w') → ∃ b, d = .bool b) {t : TE} (ht : ∀ σ H Q, tD G da σ H Q → t σ H Q) (h : PT X a (tTest t)) : PT X a (tT G da) :=
  ptI h fun σ H Q q => ht σ H _ (tT_bool hb q)
def boolPr : Pr → Bool
  | .eq | .ne | .lt | .le | .gt | .ge | .isin | .notin | .isN | .notN => true
  | _ => false
theorem p2_some {f : D → D → Option D} {ds : List D} {d : D} (h : p2 f ds = some d) : ∃ a b, ds = [a, b] ∧ f a b = some d := by
  unfold p2 at h
  split at h
  · exact ⟨_, _, rfl, h⟩
  · cases h
theorem p1_some {f : D → Option D} {ds : List D} {d : D} (h : p1 f ds = some d) : ∃ a, ds = [a] ∧ f a = some d := by
  unfold p1 at h
  split at h
  · exact ⟨_, rfl, h⟩
  · cases h
theorem prim_bool : ∀ {p : Pr} {ds : List D} {d : D}, boolPr p = true → prim p ds = some d → ∃ b, d = .bool b := by
  intro p ds d hp h
  cases p <;> first | (cases hp; done) | skip
  · obtain ⟨x, y, rfl, g⟩ := p2_some (f := eqP) h
    unfold eqP at g; split at g <;> cases g; exact ⟨_, rfl⟩
  · obtain ⟨x, y, rfl, g⟩ := p2_some (f := neP) h
    unfold neP at g; split at g <;> cases g; exact ⟨_, rfl⟩
  · obtain ⟨x, y, rfl, g⟩ := p2_some (f := (cmpP fun i j => decide (i < j))) h
    unfold cmpP at g; split at g <;> cases g; exact ⟨_, rfl⟩
  · obtain ⟨x, y, rfl, g⟩ := p2_some (f := (cmpP fun i j => decide (i ≤ j))) h
    unfold cmpP at g; split at g <;> cases g; exact ⟨_, rfl⟩
  · obtain ⟨x, y, rfl, g⟩ := p2_some (f := (cmpP fun i j => decide (j < i))) h
    unfold cmpP at g; split at g <;> cases g; exact ⟨_, rfl⟩
  · obtain ⟨x, y, rfl, g⟩ := p2_some (f := (cmpP fun i j => decide (j ≤ i))) h
    unfold cmpP at g; split at g <;> cases g; exact ⟨_, rfl⟩
  · obtain ⟨x, y, rfl, g⟩ := p2_some (f := (fun x y => (inP x y).map .bool)) h
    cases hb : inP x y with
    | none => simp [hb] at g
    | some b => simp [hb] at g; exact ⟨_, g.symm⟩
  · obtain ⟨x, y, rfl, g⟩ := p2_some (f := (fun x y => (inP x y).map fun b => .bool (!b))) h
    cases hb : inP x y with
    | none => simp [hb] at g
    | some b => simp [hb] at g; exact ⟨_, g.symm⟩
  · obtain ⟨x, rfl, g⟩ := p1_some (f := (tstP isNone)) h
    unfold tstP at g; split at g <;> cases g; exact ⟨_, rfl⟩
  · obtain ⟨x, rfl, g⟩ := p1_some (f := (tstP fun d => !isNone d)) h
    unfold tstP at g; split at g <;> cases g; exact ⟨_, rfl⟩
theorem dPrim_bool {p : Pr} {es : Exs} (hp : boolPr p = true) : ∀ c r w d w', dPrim p es c r w = some (.val d, w') → ∃ b, d = .bool b := by
  intro c r w d w' h
  unfold dPrim at h
  split at h
  · cases h
  · cases h
  · rename_i ds w1 _
    cases hd : prim p ds with
    | none => rw [hd] at h; cases h
    | some e =>
      rw [hd] at h; cases h
      exact prim_bool hp hd
theorem ptd_cmp {op : CmpOp} {p : Pr} (h : CmpS X G op p) (hbp : boolPr p = true) (ha : PE X a (tO G da)) (hb : PE X b (tO G db)) (hm : behindInMarks op b = false) : PT X (.Compare a [op] [b] pos) (tT G (dPrim p (dCons da (dCons db dNil)))) := by
  obtain ⟨r, ho, hp⟩ := h
  exact pt_bool (dPrim_bool hbp) (fun σ H Q h => tO_imp (args2 (prim_args h)) fun x H1 q => tO_imp q fun y H2 k => hp Q x y H2 k) (pt_cmpR ho ha hb hm)
theorem ptd_isN {j : Nat} {p2 : Pos} (ha : PE X a (tO G da)) : PT X (.Compare a [.Is] [.Constant .none j p2] pos) (tT G (dPrim .isN (dCons da dNil))) :=
  pt_bool (dPrim_bool rfl) (fun σ H Q h => tO_imp (args1 (prim_args h)) fun x H1 k => cs_isN Q x H1 k) (pt_cmpR op_isN ha pe_non rfl)
theorem ptd_notN {j : Nat} {p2 : Pos} (ha : PE X a (tO G da)) : PT X (.Compare a [.IsNot] [.Constant .none j p2] pos) (tT G (dPrim .notN (dCons da dNil))) :=
  pt_bool (dPrim_bool rfl) (fun σ H Q h => tO_imp (args1 (prim_args h)) fun x H1 k => cs_notN Q x H1 k) (pt_cmpR op_notN ha pe_non rfl)
/-- a op b op' c -/
theorem chain_of {p q : Pr} {r r' : R2} (hbp : boolPr p = true) (hp : ∀ Q x y H, Kp G p Q [x, y] H → r x y H Q) (hq : ∀ Q x y H, Kp G q Q [x, y] H → r' x y H Q) {σ : St} {H : Hp} {Q : VK} (h : tD G (dChain p q da db dc) σ H Q) : tChain r r' (tO G da) (tO G db) (tO G dc) σ H Q := by
  obtain ⟨A, F, r, w, x, w', rel, e, post⟩ := h
  unfold dChain at e
  cases h1 : da G.c r w with
  | none => rw [h1] at e; cases e
  | some pr =>
    obtain ⟨x1, w1⟩ := pr
    rw [h1] at e
    cases x1 with
    | exc y => cases e; exact ⟨A, F, r, w, .exc y, _, rel, h1, post⟩
    | val d1 =>
      refine ⟨A, F, r, w, .val d1, w1, rel, h1, fun v1 A1 F1 H1 s1 o1 r1 => ?_⟩
      simp only at e
      have rel1 := rel.step s1 o1
      cases h2 : db G.c r w1 with
      | none => rw [h2] at e; cases e
      | some pr =>
        obtain ⟨x2, w2⟩ := pr
        rw [h2] at e
        cases x2 with
        | exc y => cases e; exact ⟨A1, F1, r, w1, .exc y, _, rel1, h2, fun cls dd A2 F2 H2 s2 o2 q => post cls dd A2 F2 H2 (s1.trans s2) o2 q⟩
        | val d2 =>
          refine ⟨A1, F1, r, w1, .val d2, w2, rel1, h2, fun v2 A2 F2 H2 s2 o2 r2 => ?_⟩
          simp only at e
          have rel2 := rel1.step s2 o2
          cases hpr : prim p [d1, d2] with
          | none => rw [hpr] at e; cases e
          | some db' =>
            obtain ⟨bb, rfl⟩ := prim_bool hbp hpr
            rw [hpr] at e
            refine hp _ v1 v2 H2 ⟨A2, F2, w2, [d1, d2], .bool bb, s2.fh, o2, .cons (r1.step s2) (.cons r2 .nil), hpr, fun v A3 F3 H3 s3 o3 r3 => ?_⟩
            refine ⟨bb, Ro.bl (H := H3) (.inl r3), ?_⟩
            cases bb with
            | false =>
              cases e
              rw [if_neg (by decide)]
              exact post (.bl false) A3 F3 H3 ((s1.trans s2).trans s3) o3 (.inl (.bl false))
            | true =>
              rw [if_pos rfl]
              simp only at e
              have rel3 := rel2.step s3 o3
              cases h3 : dc G.c r w2 with
              | none => rw [h3] at e; cases e
              | some pr =>
                obtain ⟨x3, w3⟩ := pr
                rw [h3] at e
                cases x3 with
                | exc y => cases e; exact ⟨A3, F3, r, w2, .exc y, _, rel3, h3, fun cls dd A4 F4 H4 s4 o4 q => post cls dd A4 F4 H4 (((s1.trans s2).trans s3).trans s4) o4 q⟩
                | val d3 =>
                  refine ⟨A3, F3, r, w2, .val d3, w3, rel3, h3, fun v3 A4 F4 H4 s4 o4 r4 => ?_⟩
                  simp only at e
                  cases hqr : prim q [d2, d3] with
                  | none => rw [hqr] at e; cases e
                  | some d4 =>
                    rw [hqr] at e; cases e
                    exact hq Q v2 v3 H4 ⟨A4, F4, _, [d2, d3], d4, s4.fh, o4, .cons ((r2.step s3).step s4) (.cons r4 .nil), hqr, fun v A5 F5 H5 s5 o5 r5 => post v A5 F5 H5 ((((s1.trans s2).trans s3).trans s4).trans s5) o5 r5⟩
theorem pd_chain {op op' : CmpOp} {p q : Pr} (h : CmpS X G op p) (h' : CmpS X G op' q) (hbp : boolPr p = true) (ha : PE X a (tO G da)) (hb : PE X b (tO G db)) (hc : PE X c (tO G dc)) (hm : lastMarks [op, op'] [b, c] = false) : PE X (.Compare a [op, op'] [b, c] pos) (tD G (dChain p q da db dc)) := by
  obtain ⟨r, ho, hp⟩ := h
  obtain ⟨r', ho', hq⟩ := h'
  exact peI (pe_chain ho ho' ha hb hc hm) fun σ H Q h => chain_of hbp hp hq h
theorem dChain_bool {p q : Pr} (hq : boolPr q = true) : ∀ c r w d w', dChain p q da db dc c r w = some (.val d, w') → ∃ b, d = .bool b := by
  intro c r w d w' h
  unfold dChain at h
  split at h
  · cases h
  · cases h
  · split at h
    · cases h
    · cases h
    · split at h
      · split at h
        · cases h
        · cases h
        · rw [Option.map_eq_some_iff] at h
          obtain ⟨e, he, h⟩ := h
          cases h
          exact prim_bool hq he
      · cases h; exact ⟨_, rfl⟩
      · cases h
theorem ptd_chain {op op' : CmpOp} {p q : Pr} (h : CmpS X G op p) (h' : CmpS X G op' q) (hbp : boolPr p = true) (hbq : boolPr q = true) (ha : PE X a (tO G da)) (hb : PE X b (tO G db)) (hc : PE X c (tO G dc)) (hm : lastMarks [op, op'] [b, c] = false) : PT X (.Compare a [op, op'] [b, c] pos) (tT G (dChain p q da db dc)) := by
  obtain ⟨r, ho, hp⟩ := h
  obtain ⟨r', ho', hq⟩ := h'
  exact pt_bool (dChain_bool hbq) (fun σ H Q h => chain_of hbp hp hq h) (pt_chain ho ho' ha hb hc hm)
end
end Rx

set_option Elab.async false
set_option linter.all false
set_option maxRecDepth 100000
set_option maxHeartbeats 1000000
set_option autoImplicit false
namespace Rx
open PySem L2
section
variable {X : Cx} {G : Cg} {a b c e : Expr} {es rest : List Expr} {da db dc de : Ex} {des : Exs} {pos : Pos}
/-! ### arguments -/
theorem pad_nil : PA X [] (tDs G dNil) := paI pa_nil fun _ _ _ h => tDs_nil h
theorem pao_nil : PA X [] (tOs G dNil) := paI pa_nil fun _ _ _ h => tOs_nil h
theorem pad_cons (he : PE X e (tD G de)) (hs : PA X es (tDs G des)) (hst : starEach (e :: es) X.env = (false, eval e X.env) :: starEach es X.env) : PA X (e :: es) (tDs G (dCons de des)) := paI (pa_cons he hs hst) fun _ _ _ h => tDs_cons h
theorem pao_cons (he : PE X e (tO G de)) (hs : PA X es (tOs G des)) (hst : starEach (e :: es) X.env = (false, eval e X.env) :: starEach es X.env) : PA X (e :: es) (tOs G (dCons de des)) := paI (pa_cons he hs hst) fun _ _ _ h => tOs_cons h

/-! ### and, or, not, if -/
theorem pwd_and1 (ha : PT X a (tT G da)) : PW X (.BoolOp .And [a] pos) (tT G da) := pw_and1 ha
theorem pwd_or1 (ha : PT X a (tT G da)) : PW X (.BoolOp .Or [a] pos) (tT G da) := pw_or1 ha
theorem pwd_and (ha : PT X a (tT G da)) (hb : PW X (.BoolOp .And (b :: rest) pos) (tT G db)) : PW X (.BoolOp .And (a :: b :: rest) pos) (tT G (dAnd da db)) :=
  pwI (pw_and ha hb) fun σ H Q ⟨A, F, r, w, x, w', rel, e, post⟩ => by
    unfold dAnd at e
    cases h1 : da G.c r w with
    | none => rw [h1] at e; cases e
    | some pr =>
      obtain ⟨x1, w1⟩ := pr
      rw [h1] at e
      cases x1 with
      | exc y => cases e; exact ⟨A, F, r, w, .exc y, _, rel, h1, post⟩
      | val d =>
        simp only at e
        cases ht : truth d with
        | none => rw [ht] at e; cases e
        | some k =>
          rw [ht] at e
          refine ⟨A, F, r, w, .val d, w1, rel, h1, k, ht, fun A1 F1 H1 s1 o1 => ?_⟩
          cases k with
          | false =>
            cases e
            obtain ⟨b', hb', q⟩ := post
            rw [ht] at hb'; cases hb'
            rw [if_neg (by decide)]
            exact q A1 F1 H1 s1 o1
          | true =>
            rw [if_pos rfl]
            refine ⟨A1, F1, r, w1, x, w', rel.step s1 o1, e, ?_⟩
            cases x with
            | exc y => exact fun cls dd A2 F2 H2 s2 o2 q => post cls dd A2 F2 H2 (s1.trans s2) o2 q
            | val d2 =>
              obtain ⟨b', hb', q⟩ := post
              exact ⟨b', hb', fun A2 F2 H2 s2 o2 => q A2 F2 H2 (s1.trans s2) o2⟩
theorem pwd_or (ha : PT X a (tT G da)) (hb : PW X (.BoolOp .Or (b :: rest) pos) (tT G db)) : PW X (.BoolOp .Or (a :: b :: rest) pos) (tT G (dOr da db)) :=
  pwI (pw_or ha hb) fun σ H Q ⟨A, F, r, w, x, w', rel, e, post⟩ => by
    unfold dOr at e
    cases h1 : da G.c r w with
    | none => rw [h1] at e; cases e
    | some pr =>
      obtain ⟨x1, w1⟩ := pr
      rw [h1] at e
      cases x1 with
      | exc y => cases e; exact ⟨A, F, r, w, .exc y, _, rel, h1, post⟩
      | val d =>
        simp only at e
        cases ht : truth d with
        | none => rw [ht] at e; cases e
        | some k =>
          rw [ht] at e
          refine ⟨A, F, r, w, .val d, w1, rel, h1, k, ht, fun A1 F1 H1 s1 o1 => ?_⟩
          cases k with
          | true =>
            cases e
            obtain ⟨b', hb', q⟩ := post
            rw [ht] at hb'; cases hb'
            rw [if_pos rfl]
            exact q A1 F1 H1 s1 o1
          | false =>
            rw [if_neg (by decide)]
            refine ⟨A1, F1, r, w1, x, w', rel.step s1 o1, e, ?_⟩
            cases x with
            | exc y => exact fun cls dd A2 F2 H2 s2 o2 q => post cls dd A2 F2 H2 (s1.trans s2) o2 q
            | val d2 =>
              obtain ⟨b', hb', q⟩ := post
              exact ⟨b', hb', fun A2 F2 H2 s2 o2 => q A2 F2 H2 (s1.trans s2) o2⟩
theorem ptd_not (ha : PT X a (tT G da)) : PT X (.UnaryOp .Not a pos) (tT G (dNot da)) :=
  ptI (pt_not ha) fun σ H Q ⟨A, F, r, w, x, w', rel, e, post⟩ => by
    unfold dNot at e
    cases h1 : da G.c r w with
    | none => rw [h1] at e; cases e
    | some pr =>
      obtain ⟨x1, w1⟩ := pr
      rw [h1] at e
      cases x1 with
      | exc y => cases e; exact ⟨A, F, r, w, .exc y, _, rel, h1, post⟩
      | val d =>
        simp only at e
        cases ht : truth d with
        | none => rw [ht] at e; cases e
        | some k =>
          rw [ht] at e; cases e
          obtain ⟨b', hb', q⟩ := post
          cases hb'
          exact ⟨A, F, r, w, .val d, _, rel, h1, k, ht, q⟩
theorem pd_one {op : BoolOp} {t : TE} (h : PE X a t) : PE X (.BoolOp op [a] pos) t := pe_one h
theorem pd_and (hK : G.K = X.K) (ha : PE X a (tD G da)) (hb : PE X (.BoolOp .And (b :: rest) pos) (tD G db)) : PE X (.BoolOp .And (a :: b :: rest) pos) (tD G (dAnd da db)) :=
  peI (pe_andT ha hb) fun σ H Q ⟨A, F, r, w, x, w', rel, e, post⟩ => by
    unfold dAnd at e
    cases h1 : da G.c r w with
    | none => rw [h1] at e; cases e
    | some pr =>
      obtain ⟨x1, w1⟩ := pr
      rw [h1] at e
      cases x1 with
      | exc y => cases e; exact ⟨A, F, r, w, .exc y, _, rel, h1, post⟩
      | val d =>
        simp only at e
        cases ht : truth d with
        | none => rw [ht] at e; cases e
        | some k =>
          rw [ht] at e
          refine ⟨A, F, r, w, .val d, w1, rel, h1, fun v A1 F1 H1 s1 o1 r1 => ⟨k, truV_of hK s1.fh (.inl r1) ht, ?_⟩⟩
          cases k with
          | false =>
            cases e
            rw [if_neg (by decide)]
            exact post v A1 F1 H1 s1 o1 r1
          | true =>
            rw [if_pos rfl]
            refine ⟨A1, F1, r, w1, x, w', rel.step s1 o1, e, ?_⟩
            cases x with
            | exc y => exact fun cls dd A2 F2 H2 s2 o2 q => post cls dd A2 F2 H2 (s1.trans s2) o2 q
            | val d2 => exact fun v2 A2 F2 H2 s2 o2 r2 => post v2 A2 F2 H2 (s1.trans s2) o2 r2
theorem pd_or (hK : G.K = X.K) (ha : PE X a (tD G da)) (hb : PE X (.BoolOp .Or (b :: rest) pos) (tD G db)) : PE X (.BoolOp .Or (a :: b :: rest) pos) (tD G (dOr da db)) :=
  peI (pe_orT ha hb) fun σ H Q ⟨A, F, r, w, x, w', rel, e, post⟩ => by
    unfold dOr at e
    cases h1 : da G.c r w with
    | none => rw [h1] at e; cases e
    | some pr =>
      obtain ⟨x1, w1⟩ := pr
      rw [h1] at e
      cases x1 with
      | exc y => cases e; exact ⟨A, F, r, w, .exc y, _, rel, h1, post⟩
      | val d =>
        simp only at e
        cases ht : truth d with
        | none => rw [ht] at e; cases e
        | some k =>
          rw [ht] at e
          refine ⟨A, F, r, w, .val d, w1, rel, h1, fun v A1 F1 H1 s1 o1 r1 => ⟨k, truV_of hK s1.fh (.inl r1) ht, ?_⟩⟩
          cases k with
          | true =>
            cases e
            rw [if_pos rfl]
            exact post v A1 F1 H1 s1 o1 r1
          | false =>
            rw [if_neg (by decide)]
            refine ⟨A1, F1, r, w1, x, w', rel.step s1 o1, e, ?_⟩
            cases x with
            | exc y => exact fun cls dd A2 F2 H2 s2 o2 q => post cls dd A2 F2 H2 (s1.trans s2) o2 q
            | val d2 => exact fun v2 A2 F2 H2 s2 o2 r2 => post v2 A2 F2 H2 (s1.trans s2) o2 r2
theorem pd_notE (hK : G.K = X.K) (ha : PE X a (tO G da)) : PE X (.UnaryOp .Not a pos) (tD G (dNot da)) :=
  peI (pe_notT ha) fun σ H Q ⟨A, F, r, w, x, w', rel, e, post⟩ => by
    unfold dNot at e
    cases h1 : da G.c r w with
    | none => rw [h1] at e; cases e
    | some pr =>
      obtain ⟨x1, w1⟩ := pr
      rw [h1] at e
      cases x1 with
      | exc y => cases e; exact ⟨A, F, r, w, .exc y, _, rel, h1, post⟩
      | val d =>
        simp only at e
        cases ht : truth d with
        | none => rw [ht] at e; cases e
        | some k =>
          rw [ht] at e; cases e
          exact ⟨A, F, r, w, .val d, _, rel, h1, fun v A1 F1 H1 s1 o1 r1 => ⟨k, truV_of hK s1.fh r1 ht, post (.bl (!k)) A1 F1 H1 s1 o1 (.inl (.bl _))⟩⟩
theorem pd_ite (hc : PT X c (tT G dc)) (ha : PE X a (tD G da)) (hb : PE X b (tD G db)) : PE X (.IfExp c a b pos) (tD G (dIte dc da db)) :=
  peI (pe_ifExp hc ha hb) fun σ H Q ⟨A, F, r, w, x, w', rel, e, post⟩ => by
    unfold dIte at e
    cases h1 : dc G.c r w with
    | none => rw [h1] at e; cases e
    | some pr =>
      obtain ⟨x1, w1⟩ := pr
      rw [h1] at e
      cases x1 with
      | exc y => cases e; exact ⟨A, F, r, w, .exc y, _, rel, h1, post⟩
      | val d =>
        simp only at e
        cases ht : truth d with
        | none => rw [ht] at e; cases e
        | some k =>
          rw [ht] at e
          refine ⟨A, F, r, w, .val d, w1, rel, h1, k, ht, fun A1 F1 H1 s1 o1 => ?_⟩
          have again : ∀ dd : Ex, dd G.c r w1 = some (x, w') → tD G dd σ H1 Q := fun dd hd => by
            refine ⟨A1, F1, r, w1, x, w', rel.step s1 o1, hd, ?_⟩
            cases x with
            | exc y => exact fun cls dd A2 F2 H2 s2 o2 q => post cls dd A2 F2 H2 (s1.trans s2) o2 q
            | val d2 => exact fun v2 A2 F2 H2 s2 o2 r2 => post v2 A2 F2 H2 (s1.trans s2) o2 r2
          cases k with
          | true => exact iteT (again _ e)
          | false => exact iteF (again _ e)

/-! ### displays -/
theorem all_plain {K : PySem.W.Frag} {A : List Addr} {F : Hp} {vs : List V} {ds : List D} (h : RtAll K A F vs ds) (p : ds.all plain = true) : RpAll F vs ds := h.plain p
theorem tDs_imp {Q Q' : List V → Hp → Prop} {σ : St} {H : Hp} (h : tDs G des σ H Q) (i : ∀ v H, Q v H → Q' v H) : tDs G des σ H Q' := by
  obtain ⟨A, F, r, w, x, w', rel, e, post⟩ := h
  refine ⟨A, F, r, w, x, w', rel, e, ?_⟩
  cases x with
  | vals d => exact fun v A' F' H' s o q => i _ _ (post v A' F' H' s o q)
  | exc x => exact post
theorem tOs_imp {Q Q' : List V → Hp → Prop} {σ : St} {H : Hp} (h : tOs G des σ H Q) (i : ∀ v H, Q v H → Q' v H) : tOs G des σ H Q' := by
  obtain ⟨A, F, r, w, x, w', rel, e, post⟩ := h
  refine ⟨A, F, r, w, x, w', rel, e, ?_⟩
  cases x with
  | vals d => exact fun v A' F' H' s o q => i _ _ (post v A' F' H' s o q)
  | exc x => exact post
theorem pd_tup {k : Nat} (h : PA X es (tDs G des)) : PE X (.Tuple es k pos) (tD G (dPrim .tup des)) :=
  peI (pe_tup h) fun σ H Q q => tDs_imp (prim_argsD q) fun vs H1 ⟨A, F, w, ds, d, s, o, ro, e, f⟩ => by
    replace e : tupP ds = some d := e
    unfold tupP at e
    split at e
    · rename_i hz; cases e
      simp only [Bool.and_eq_true, decide_eq_true_eq] at hz
      have r := ro.plain hz.1
      exact ⟨by rw [r.length]; exact zl hz.2, fun p hp => f.tup s o hp r⟩
    · cases e
theorem pd_lst (h : PA X es (tDs G des)) : PE X (.List es pos) (tD G (dPrim .lst des)) :=
  peI (pe_lst h) fun σ H Q q => tDs_imp (prim_argsD q) fun vs H1 ⟨A, F, w, ds, d, s, o, ro, e, f⟩ => by
    replace e : lstP ds = some d := e
    unfold lstP at e
    split at e
    · rename_i hz; cases e
      simp only [Bool.and_eq_true, decide_eq_true_eq] at hz
      have r := ro.plain hz.1
      exact ⟨by rw [r.length]; exact zl hz.2, fun p hp => f.lst s o hp r⟩
    · cases e

/-! ### subscripts -/
theorem at_of' {F : Hp} {vs : List V} {ds : List D} {i : Int} {d : D} (r : RpAll F vs ds) (e : ((ixAt ds.length i).bind fun j => ds[j]?) = some d) : ∃ v, atI vs i = some v ∧ Rp F v d := by
  cases hj : ixAt ds.length i with
  | none => rw [hj] at e; cases e
  | some j =>
    rw [hj] at e
    obtain ⟨v, h1, h2⟩ := r.get (show ds[j]? = some d from e)
    refine ⟨v, ?_, h2⟩
    unfold atI
    have : ixN vs.length i = some j := by rw [r.length]; exact hj
    rw [this]
    exact h1
theorem pd_ix (hK : G.K = X.K) (ha : PE X a (tO G da)) (hb : PE X b (tO G db)) (hs : PlainIx b) : PE X (.Subscript a b pos) (tD G (dPrim .ix (dCons da (dCons db dNil)))) :=
  peI (pe_ix ix_seq ha hb hs) fun σ H Q h => tO_imp (args2 (prim_args h)) fun x H1 q => tO_imp q fun y H2 ⟨A, F, w, ds, d, s, o, ro, e, f⟩ => by
    obtain ⟨d1, d2, rfl, r1, r2⟩ := RoAll2 ro
    replace e : ixP d1 d2 = some d := e
    unfold ixP at e
    split at e
    · obtain ⟨a1, v1, rfl, f1, q1⟩ := r1.lst s
      obtain ⟨v, h1, h2⟩ := at_of' q1 e
      exact .inl ⟨a1, v1, _, v, rfl, r2.int, .inl (.inl f1), h1, f.same s o (.inl h2)⟩
    · obtain ⟨a1, v1, rfl, f1, q1⟩ := r1.tup
      obtain ⟨v, h1, h2⟩ := at_of' q1 e
      exact .inr (.inl ⟨a1, v1, _, v, rfl, r2.int, .inl (.inl (s _ _ f1)), h1, f.same s o (.inl h2)⟩)
    · split at e
      · rename_i z i hz
        cases hj : ixAt z.cps.toList.length i with
        | none => rw [hj] at e; cases e
        | some j =>
          rw [hj] at e
          replace e : (z.cps.toList[j]?).map (fun c => PyData.str ⟨#[c]⟩) = some d := e
          cases hc : z.cps.toList[j]? with
          | none => rw [hc] at e; cases e
          | some c =>
            rw [hc] at e; cases e
            refine .inr (.inr ⟨z, i, c, r1.str, r2.int, zl hz, ?_, f.same s o (.inl (.str _))⟩)
            unfold atI
            have : ixN z.cps.toList.length i = some j := hj
            rw [this]
            exact hc
      · cases e
    · rename_i xs i
      obtain ⟨a1, ns, rfl, rfl, q1⟩ := r1.script s
      rw [List.length_map] at e
      cases hj : ixAt ns.length i with
      | none => rw [hj] at e; cases e
      | some j =>
        rw [hj] at e
        replace e : (ns.map PyData.int)[j]? = some d := e
        rw [List.getElem?_map] at e
        cases hn : ns[j]? with
        | none => rw [hn] at e; cases e
        | some n =>
          rw [hn] at e; cases e
          refine .inl ⟨a1, ns.map V.int, i, .int n, rfl, r2.int, hK ▸ q1, ?_, f.same s o (.inl (.int n))⟩
          unfold atI
          have : ixN (ns.map V.int).length i = some j := by rw [List.length_map]; exact hj
          rw [this]
          show (ns.map V.int)[j]? = _
          rw [List.getElem?_map, hn]; rfl
    · rename_i xs i
      obtain ⟨a1, ns, rfl, rfl, ob, q1, _⟩ := r1.xt
      rw [List.length_map] at e
      cases hj : ixAt ns.length i with
      | none => rw [hj] at e; cases e
      | some j =>
        rw [hj] at e
        replace e : (ns.map PyData.int)[j]? = some d := e
        rw [List.getElem?_map] at e
        cases hn : ns[j]? with
        | none => rw [hn] at e; cases e
        | some n =>
          rw [hn] at e; cases e
          refine .inr (.inl ⟨a1, ns.map V.int, i, .int n, rfl, r2.int, .inl (.inr ⟨ob, s _ _ q1⟩), ?_, f.same s o (.inl (.int n))⟩)
          unfold atI
          have : ixN (ns.map V.int).length i = some j := by rw [List.length_map]; exact hj
          rw [this]
          show (ns.map V.int)[j]? = some (.int n)
          rw [List.getElem?_map, hn]; rfl
    · cases e
theorem cut_all {F : Hp} {vs : List V} {ds : List D} (r : RpAll F vs ds) (lo hi : Option Int) : RpAll F (cutV vs lo hi) (cut ds lo hi) := by
  have e : ∀ n d o, clip n d o = HT.sIx n d o := fun n d o => by cases o <;> rfl
  unfold cutV cut
  rw [r.length]
  simp only [e]
  exact (r.drop _).take _
theorem cut_id {F : Hp} {vs : List V} {ds : List D} (r : RpAll F vs ds) {lo hi : Option Int} (h : HT.sIx vs.length 0 lo = 0 ∧ HT.sIx vs.length vs.length hi = vs.length) : cut ds lo hi = ds := by
  have e : ∀ n d o, clip n d o = HT.sIx n d o := fun n d o => by cases o <;> rfl
  unfold cut
  simp only [e]
  rw [← r.length, h.1, h.2]
  simp only [List.drop_zero, Nat.sub_zero]
  rw [r.length]
  exact List.take_length
theorem sl_ok {Q : VK} {x : V} {H : Hp} {A : List Addr} {F : Hp} {w : Om} {d1 d : D} {lo hi : Option Int} (hK : G.K = X.K) (s : Same F H) (o : Omg G.C A F H w) (r1 : Ro G.K A F H x d1) (e : slP d1 lo hi = some d) (f : Fin G A F H w d Q) :
    (rSlA X.K x lo hi H Q ∨ rSlL X.K x lo hi H Q) ∨ rSlS x lo hi H Q := by
  unfold slP at e
  split at e
  · cases e
    obtain ⟨a1, v1, rfl, f1, q1⟩ := r1.lst s
    exact .inl (.inr ⟨a1, v1, rfl, .inl (.inl f1), fun p hp => f.lst s o hp (cut_all q1 lo hi)⟩)
  · cases e
    obtain ⟨a1, v1, rfl, f1, q1⟩ := r1.tup
    refine .inl (.inl ⟨a1, v1, rfl, .inl (.inl (s _ _ f1)), fun h => ?_, fun _ p hp => f.tup s o hp (cut_all q1 lo hi)⟩)
    rw [cut_id q1 h] at f
    exact f.same s o (.inl (.tup f1 q1))
  · split at e
    · rename_i z hz; cases e
      refine .inr ⟨z, r1.str, zl hz, ?_⟩
      have ee : ∀ n d o, clip n d o = HT.sIx n d o := fun n d o => by cases o <;> rfl
      have : cutS z lo hi = ⟨(cut z.cps.toList lo hi).toArray⟩ := by
        unfold cutS cut
        simp only [ee]
        rfl
      rw [this]
      exact f.same s o (.inl (.str _))
    · cases e
  · cases e
theorem sl_all : SlR X (fun x lo hi H Q => (rSlA X.K x lo hi H Q ∨ rSlL X.K x lo hi H Q) ∨ rSlS x lo hi H Q) := (sl_tupA.or sl_list).or sl_str
theorem pd_sl0 (hK : G.K = X.K) {p2 : Pos} (ha : PE X a (tO G da)) : PE X (.Subscript a (.Slice none none none p2) pos) (tD G (dPrim .sl0 (dCons da dNil))) :=
  peI (pe_slice sl_all ha po_none po_none) fun σ H Q h => tO_imp (args1 (prim_args h)) fun x H1 ⟨A, F, w, ds, d, s, o, ro, e, f⟩ => by
    obtain ⟨d1, rfl, r1⟩ := RoAll1 ro
    exact sl_ok hK s o r1 e f
theorem pd_slL (hK : G.K = X.K) {p2 : Pos} (ha : PE X a (tO G da)) (hb : PE X b (tO G db)) : PE X (.Subscript a (.Slice (some b) none none p2) pos) (tD G (dPrim .slL (dCons da (dCons db dNil)))) :=
  peI (pe_slice sl_all ha (po_some hb) po_none) fun σ H Q h => tO_imp (args2 (prim_args h)) fun x H1 q => tO_imp q fun y H2 ⟨A, F, w, ds, d, s, o, ro, e, f⟩ => by
    obtain ⟨d1, d2, rfl, r1, r2⟩ := RoAll2 ro
    replace e : slL d1 d2 = some d := e
    unfold slL at e
    split at e
    · exact ⟨_, r2.int, sl_ok hK s o r1 e f⟩
    · cases e
theorem pd_slH (hK : G.K = X.K) {p2 : Pos} (ha : PE X a (tO G da)) (hb : PE X b (tO G db)) : PE X (.Subscript a (.Slice none (some b) none p2) pos) (tD G (dPrim .slH (dCons da (dCons db dNil)))) :=
  peI (pe_slice sl_all ha po_none (po_some hb)) fun σ H Q h => tO_imp (args2 (prim_args h)) fun x H1 q => tO_imp q fun y H2 ⟨A, F, w, ds, d, s, o, ro, e, f⟩ => by
    obtain ⟨d1, d2, rfl, r1, r2⟩ := RoAll2 ro
    replace e : slH d1 d2 = some d := e
    unfold slH at e
    split at e
    · exact ⟨_, r2.int, sl_ok hK s o r1 e f⟩
    · cases e

theorem args3' {a b c : Ex} {σ : St} {H : Hp} {Q : List V → Hp → Prop} (h : tOs G (dCons a (dCons b (dCons c dNil))) σ H Q) : tO G a σ H fun x H1 => tO G b σ H1 fun y H2 => tO G c σ H2 fun z H3 => Q [x, y, z] H3 := args3 h
theorem RoAll3 {K : PySem.W.Frag} {A : List Addr} {F H : Hp} {x y z : V} {ds : List D} (h : RoAll K A F H [x, y, z] ds) : ∃ d e g, ds = [d, e, g] ∧ Ro K A F H x d ∧ Ro K A F H y e ∧ Ro K A F H z g := by
  cases h with
  | cons a t =>
    cases t with
    | cons b u =>
      cases u with
      | cons c t => cases t; exact ⟨_, _, _, rfl, a, b, c⟩

/-! ### built-in functions -/
theorem pd_callB {id : String} {p : Pr} {r : List V → Hp → VK → Prop} {x : Str} {ps : Pos} (hc : CallR X (.builtin id) r) (hp : ∀ Q vs H, Kp G p Q vs H → r vs H Q) (hg : Gl X x) (hm : X.mg x = none) (hv : bootBuiltins x = some (.builtin id)) (ha : PA X (e :: es) (tOs G des)) (hn : x ≠ "__name__") (hdb : (x == ("__debug__" : Str)) = false)
    (he : starEach (e :: es) X.env = (false, eval e X.env) :: starEach es X.env) (hpl : (backTo pos (starEach es X.env)).any (·.1) = false) : PE X (.Call (.Name x ps) (e :: es) [] pos) (tD G (dPrim p des)) :=
  peI (pe_callB hc hg hm hv ha hn hdb he hpl) fun σ H Q h => tOs_imp (prim_args h) fun vs H1 k => hp Q vs H1 k
theorem pd_callTy {T : String} {p : Pr} {r : List V → Hp → VK → Prop} {x : Str} {ps : Pos} (hc : CallR X (.type T) r) (hp : ∀ Q vs H, Kp G p Q vs H → r vs H Q) (hg : Gl X x) (hm : X.mg x = none) (hv : bootBuiltins x = some (.type T)) (ha : PA X (e :: es) (tOs G des)) (hn : x ≠ "__name__") (hdb : (x == ("__debug__" : Str)) = false)
    (he : starEach (e :: es) X.env = (false, eval e X.env) :: starEach es X.env) (hpl : (backTo pos (starEach es X.env)).any (·.1) = false) : PE X (.Call (.Name x ps) (e :: es) [] pos) (tD G (dPrim p des)) :=
  peI (pe_callTy hc hg hm hv ha hn hdb he hpl) fun σ H Q h => tOs_imp (prim_args h) fun vs H1 k => hp Q vs H1 k
/-- a primitive of built-in functions, its rule -/
def FnS (X : Cx) (G : Cg) (f : Value) (p : Pr) : Prop := ∃ r, CallR X f r ∧ ∀ Q vs H, Kp G p Q vs H → r vs H Q
theorem p1_args {p : Pr} {f : D → Option D} (hp : prim p = p1 f) {Q : VK} {vs : List V} {H : Hp} (k : Kp G p Q vs H) : ∃ A F w v d1 d, vs = [v] ∧ Same F H ∧ Omg G.C A F H w ∧ Ro G.K A F H v d1 ∧ f d1 = some d ∧ Fin G A F H w d Q := by
  obtain ⟨A, F, w, ds, d, s, o, ro, e, fn⟩ := k
  rw [hp] at e
  obtain ⟨d1, rfl, e⟩ := p1_some e
  cases ro with
  | cons r t => cases t; exact ⟨A, F, w, _, d1, d, rfl, s, o, r, e, fn⟩
theorem p2_args {p : Pr} {f : D → D → Option D} (hp : prim p = p2 f) {Q : VK} {vs : List V} {H : Hp} (k : Kp G p Q vs H) : ∃ A F w v u d1 d2 d, vs = [v, u] ∧ Same F H ∧ Omg G.C A F H w ∧ Ro G.K A F H v d1 ∧ Ro G.K A F H u d2 ∧ f d1 d2 = some d ∧ Fin G A F H w d Q := by
  obtain ⟨A, F, w, ds, d, s, o, ro, e, fn⟩ := k
  rw [hp] at e
  obtain ⟨d1, d2, rfl, e⟩ := p2_some e
  cases ro with
  | cons r t =>
    cases t with
    | cons r2 t => cases t; exact ⟨A, F, w, _, _, d1, d2, d, rfl, s, o, r, r2, e, fn⟩
theorem fs_len (hK : G.K = X.K) : FnS X G (.builtin "len") .len := ⟨_, call_len_seq.or call_len_str, fun Q vs H k => by
  obtain ⟨A, F, w, v, d1, d, rfl, s, o, r, e, f⟩ := p1_args rfl k
  unfold lenP at e
  split at e
  · cases e
    obtain ⟨a1, v1, rfl, f1, q1⟩ := r.lst s
    exact .inl ⟨a1, v1, rfl, .inl (.inl (.inl f1)), by rw [q1.length]; exact f.same s o (.inl (.int _))⟩
  · cases e
    obtain ⟨a1, v1, rfl, f1, q1⟩ := r.tup
    exact .inl ⟨a1, v1, rfl, .inr (.inl (.inl (s _ _ f1))), by rw [q1.length]; exact f.same s o (.inl (.int _))⟩
  · split at e
    · rename_i hz; cases e
      exact .inr ⟨_, by rw [r.str], zl hz, f.same s o (.inl (.int _))⟩
    · cases e
  · cases e
    obtain ⟨a1, ns, rfl, rfl, q1⟩ := r.script s
    rw [List.length_map] at f
    exact .inl ⟨a1, ns.map V.int, rfl, .inl (hK ▸ q1), by rw [List.length_map]; exact f.same s o (.inl (.int _))⟩
  · cases e⟩
theorem items_some {d : D} {ds : List D} (h : items d = some ds) : d = .list ds ∨ d = .tuple ds := by
  unfold items at h
  split at h
  · cases h; exact .inl rfl
  · cases h; exact .inr rfl
  · cases h
theorem fs_list : FnS X G (.type "list") .list := ⟨_, call_list_of, fun Q vs H k => by
  obtain ⟨A, F, w, v, d1, d, rfl, s, o, r, e, f⟩ := p1_args rfl k
  rw [Option.map_eq_some_iff] at e
  obtain ⟨ds, h1, rfl⟩ := e
  rcases items_some h1 with rfl | rfl
  · obtain ⟨a1, v1, rfl, f1, q1⟩ := r.lst s
    exact ⟨a1, v1, rfl, .inl (.inl (.inl f1)), fun p hp => f.lst s o hp q1⟩
  · obtain ⟨a1, v1, rfl, f1, q1⟩ := r.tup
    exact ⟨a1, v1, rfl, .inr (.inl (.inl (s _ _ f1))), fun p hp => f.lst s o hp q1⟩⟩
theorem fs_tuple : FnS X G (.type "tuple") .tuple := ⟨_, call_tuple_of, fun Q vs H k => by
  obtain ⟨A, F, w, v, d1, d, rfl, s, o, r, e, f⟩ := p1_args rfl k
  rw [Option.map_eq_some_iff] at e
  obtain ⟨ds, h1, rfl⟩ := e
  rcases items_some h1 with rfl | rfl
  · obtain ⟨a1, v1, rfl, f1, q1⟩ := r.lst s
    exact ⟨a1, v1, rfl, .inl ⟨.inl (.inl f1), fun p hp => f.tup s o hp q1⟩⟩
  · obtain ⟨a1, v1, rfl, f1, q1⟩ := r.tup
    exact ⟨a1, v1, rfl, .inr ⟨.inl (.inl (s _ _ f1)), f.same s o (.inl (.tup f1 q1))⟩⟩⟩
theorem fs_max2 (hc : X.calm = true) : FnS X G (.builtin "max") .max2 := ⟨_, call_max2 hc, fun Q vs H k => by
  obtain ⟨A, F, w, v, u, d1, d2, d, rfl, s, o, r1, r2, e, f⟩ := p2_args rfl k
  unfold max2P at e
  split at e
  · cases e; exact ⟨_, _, by rw [r1.int, r2.int], f.same s o (.inl (.int _))⟩
  · cases e⟩
theorem fs_min2 (hc : X.calm = true) : FnS X G (.builtin "min") .min2 := ⟨_, call_min2 hc, fun Q vs H k => by
  obtain ⟨A, F, w, v, u, d1, d2, d, rfl, s, o, r1, r2, e, f⟩ := p2_args rfl k
  unfold min2P at e
  split at e
  · cases e; exact ⟨_, _, by rw [r1.int, r2.int], f.same s o (.inl (.int _))⟩
  · cases e⟩
theorem fs_int : FnS X G (.type "int") .int := ⟨_, call_int1, fun Q vs H k => by
  obtain ⟨A, F, w, v, d1, d, rfl, s, o, r, e, f⟩ := p1_args rfl k
  unfold intP at e
  split at e
  · cases e; exact .inr ⟨_, by rw [r.bl], f.same s o (.inl (.int _))⟩
  · cases e⟩
/-! ### isinstance with a built-in class -/
def tyN : D → String
  | .none => "NoneType"
  | .bool _ => "bool"
  | .int _ => "int"
  | .str _ => "str"
  | .list _ => "list"
  | .tuple _ => "tuple"
  | .dict _ => "dict"
theorem tyx_of {K K' : PySem.W.Frag} {A : List Addr} {F H : Hp} {v : V} {d : D} (s : Same F H) (r : Ro K A F H v d) (p : plain d = true) : TyX K' H v (.type (tyN d)) := by
  cases d with
  | none => rw [r.non]; exact .base .non
  | bool b => rw [r.bl]; exact .base (.bl _)
  | int i => rw [r.int]; exact .base (.int _)
  | str x => rw [r.str]; exact .base (.str _)
  | list ds => obtain ⟨a, vs, rfl, h, _⟩ := r.lst s; exact .base (.lst h)
  | tuple ds => obtain ⟨a, vs, rfl, h, _⟩ := r.tup; exact .base (.tup (s _ _ h))
  | dict _ => cases p
/-- the class's name, the primitive, its test -/
inductive IsiK : Str → String → Pr → (D → Bool) → Prop
  | int : IsiK "int" "int" .isInt isInt
  | bool : IsiK "bool" "bool" .isBool isBool
  | tuple : IsiK "tuple" "tuple" .isTuple isTup
  | str : IsiK "str" "str" .isStr isStr
theorem isi_kit {x : Str} {T : String} {p : Pr} {f : D → Bool} (h : IsiK x T p f) {K : PySem.W.Frag} (d : D) (pl : plain d = true) :
    PySem.W.kitOne K (.type (tyN d)) (.type T) = some (f d) := by
  cases h <;> cases d <;> (first | exact kit_ty (show kitB "NoneType" "int" = some false by decide +kernel) | exact kit_ty (show kitB "bool" "int" = some true by decide +kernel) | exact kit_ty (show kitB "int" "int" = some true by decide +kernel) | exact kit_ty (show kitB "str" "int" = some false by decide +kernel) | exact kit_ty (show kitB "list" "int" = some false by decide +kernel) | exact kit_ty (show kitB "tuple" "int" = some false by decide +kernel) | exact kit_ty (show kitB "NoneType" "bool" = some false by decide +kernel) | exact kit_ty (show kitB "bool" "bool" = some true by decide +kernel) | exact kit_ty (show kitB "int" "bool" = some false by decide +kernel) | exact kit_ty (show kitB "str" "bool" = some false by decide +kernel) | exact kit_ty (show kitB "list" "bool" = some false by decide +kernel) | exact kit_ty (show kitB "tuple" "bool" = some false by decide +kernel) | exact kit_ty (show kitB "NoneType" "tuple" = some false by decide +kernel) | exact kit_ty (show kitB "bool" "tuple" = some false by decide +kernel) | exact kit_ty (show kitB "int" "tuple" = some false by decide +kernel) | exact kit_ty (show kitB "str" "tuple" = some false by decide +kernel) | exact kit_ty (show kitB "list" "tuple" = some false by decide +kernel) | exact kit_ty (show kitB "tuple" "tuple" = some true by decide +kernel) | exact kit_ty (show kitB "NoneType" "str" = some false by decide +kernel) | exact kit_ty (show kitB "bool" "str" = some false by decide +kernel) | exact kit_ty (show kitB "int" "str" = some false by decide +kernel) | exact kit_ty (show kitB "str" "str" = some true by decide +kernel) | exact kit_ty (show kitB "list" "str" = some false by decide +kernel) | exact kit_ty (show kitB "tuple" "str" = some false by decide +kernel) | (exact absurd pl (by simp [plain])))
theorem pd_isi {x : Str} {T : String} {p : Pr} {f : D → Bool} {ps p2 : Pos} (h : IsiK x T p f) (hg : Gl X "isinstance") (hm : X.mg "isinstance" = none) (hgx : Gl X x) (hmx : X.mg x = none) (ha : PE X a (tO G da)) (hst : starEach [a, .Name x p2] X.env = (false, eval a X.env) :: starEach [.Name x p2] X.env) :
    PE X (.Call (.Name "isinstance" ps) [a, .Name x p2] [] pos) (tD G (dPrim p (dCons da dNil))) := by
  have hb : bootBuiltins x = some (.type T) := by cases h <;> decide +kernel
  have hn : x ≠ "__name__" := by cases h <;> decide
  have hd : (x == ("__debug__" : Str)) = false := by cases h <;> decide
  have hp : prim p = p1 (tstP f) := by cases h <;> rfl
  have hc : PE X (.Name x p2) (tC (.ty T)) := pe_bltn hgx hmx hb rfl hn hd
  refine peI (pe_callB call_isi hg hm (by decide +kernel) (pa_cons ha (pa_cons hc pa_nil rfl) hst) (by decide) (by decide) hst rfl) fun σ H Q q => tO_imp (args1 (prim_args q)) fun v H1 k => ?_
  obtain ⟨A, F, w, v', d1, d, e1, s, o, r, e, fn⟩ := p1_args hp k
  cases e1
  unfold tstP at e
  split at e
  · rename_i pl; cases e
    have ty := tyx_of (K' := X.K) s r pl
    exact ⟨_, _, _, _, _, rfl, .ty T, ty, isi_kit h d1 pl, fn.same s o (.inl (.bl _))⟩
  · cases e
/-! ### tuple(range(..)), list(range(..)) -/
theorem rg_all (F : Hp) (i j : Int) : RpAll F (rgV i j) (rangeD i j) := by
  unfold rgV rangeD
  generalize List.range (j - i).toNat = l
  induction l with
  | nil => exact .nil
  | cons x l ih => exact .cons (.int _) ih
theorem rng_ok {i j : Int} (h1 : inR i = true) (h2 : inR j = true) (h : j - i ≤ zL) : RgOk i j := by
  unfold inR at h1 h2
  simp only [Bool.and_eq_true, decide_eq_true_eq] at h1 h2
  unfold zL at h
  exact ⟨h1.1, h1.2, h2.1, h2.2, by omega⟩
theorem prim_prim {p q : Pr} {es : Exs} {σ : St} {H : Hp} {Q : VK} {f : D → Option D} (hp : prim p = p1 f) (h : tD G (dPrim p (dCons (dPrim q es) dNil)) σ H Q) :
    tOs G es σ H fun vs H1 => ∃ A F w ds d1 d, Same F H1 ∧ Omg G.C A F H1 w ∧ RoAll G.K A F H1 vs ds ∧ prim q ds = some d1 ∧ f d1 = some d ∧ Fin G A F H1 w d Q := by
  obtain ⟨A, F, r, w, x, w', rel, e, post⟩ := h
  simp only [dPrim, dCons, dNil] at e
  cases h1 : es G.c r w with
  | none => rw [h1] at e; cases e
  | some pr =>
    obtain ⟨x1, w1⟩ := pr
    rw [h1] at e
    cases x1 with
    | exc y => cases e; exact ⟨A, F, r, w, .exc y, _, rel, h1, post⟩
    | vals ds =>
      simp only at e
      cases h2 : prim q ds with
      | none => rw [h2] at e; cases e
      | some d1 =>
        rw [h2] at e
        simp only [Option.map_some, hp] at e
        replace e : (f d1).map (fun d => (R.val d, w1)) = some (x, w') := e
        rw [Option.map_eq_some_iff] at e
        obtain ⟨d, h3, e⟩ := e
        cases e
        exact ⟨A, F, r, w, .vals ds, _, rel, h1, fun vs A1 F1 H1 s1 o1 r1 => ⟨A1, F1, _, ds, d1, d, s1.fh, o1, r1, h2, h3, fun v A2 F2 H2 s2 o2 r2 => post v A2 F2 H2 (s1.trans s2) o2 r2⟩⟩
theorem rng1_some {d d1 : D} (h : rng1P d = some d1) : ∃ j : Int, d = .int j ∧ RgOk 0 j ∧ d1 = .list (rangeD 0 j) := by
  unfold rng1P at h
  split at h
  · split at h
    · rename_i j hz; cases h
      simp only [Bool.and_eq_true, decide_eq_true_eq] at hz
      exact ⟨j, rfl, rng_ok (by decide) hz.1 (by omega), rfl⟩
    · cases h
  · cases h
theorem rng2_some {d e d1 : D} (h : rng2P d e = some d1) : ∃ i j : Int, d = .int i ∧ e = .int j ∧ RgOk i j ∧ d1 = .list (rangeD i j) := by
  unfold rng2P at h
  split at h
  · split at h
    · rename_i i j hz; cases h
      simp only [Bool.and_eq_true, decide_eq_true_eq] at hz
      exact ⟨i, j, rfl, rfl, rng_ok hz.1.1 hz.1.2 hz.2, rfl⟩
    · cases h
  · cases h
section
variable {p1' p2' p3' : Pos} (hc : X.calm = true) (hgr : Gl X "range") (hmr : X.mg "range" = none)
include hc hgr hmr
theorem pd_tupRng1 (hg : Gl X "tuple") (hm : X.mg "tuple" = none) (ha : PE X a (tO G da)) (hst : starEach [a] X.env = (false, eval a X.env) :: starEach [] X.env) :
    PE X (.Call (.Name "tuple" p1') [.Call (.Name "range" p2') [a] [] p3'] [] pos) (tD G (dPrim .tuple (dCons (dPrim .rng1 (dCons da dNil)) dNil))) :=
  peI (pe_tupRg hc hg hm (prg_1 hgr hmr ha hst)) fun σ H Q h => tO_imp (args1 (prim_prim (f := fun d => (items d).map .tuple) rfl h)) fun v H1 ⟨A, F, w, ds, d1, d, s, o, r, e1, e2, f⟩ => by
    obtain ⟨dx, rfl, r1⟩ := RoAll1 r
    obtain ⟨j, rfl, ok, rfl⟩ := rng1_some (d := dx) e1
    cases e2
    exact ⟨j, r1.int, ok, fun q hq => f.tup s o hq (rg_all F 0 j)⟩
theorem pd_tupRng2 (hg : Gl X "tuple") (hm : X.mg "tuple" = none) (ha : PE X a (tO G da)) (hb : PE X b (tO G db)) (hst : starEach [a, b] X.env = (false, eval a X.env) :: starEach [b] X.env) (hst2 : starEach [b] X.env = (false, eval b X.env) :: starEach [] X.env) (hp : (backTo p3' (starEach [b] X.env)).any (·.1) = false) :
    PE X (.Call (.Name "tuple" p1') [.Call (.Name "range" p2') [a, b] [] p3'] [] pos) (tD G (dPrim .tuple (dCons (dPrim .rng2 (dCons da (dCons db dNil))) dNil))) :=
  peI (pe_tupRg hc hg hm (prg_2 hgr hmr ha hb hst hst2 hp)) fun σ H Q h => tO_imp (args2 (prim_prim (f := fun d => (items d).map .tuple) rfl h)) fun v H1 q => tO_imp q fun u H2 ⟨A, F, w, ds, d1, d, s, o, r, e1, e2, f⟩ => by
    obtain ⟨dx, dy, rfl, r1, r2⟩ := RoAll2 r
    obtain ⟨i, j, rfl, rfl, ok, rfl⟩ := rng2_some (d := dx) (e := dy) e1
    cases e2
    exact ⟨i, j, r1.int, r2.int, ok, fun q hq => f.tup s o hq (rg_all F i j)⟩
theorem pd_lstRng1 (hg : Gl X "list") (hm : X.mg "list" = none) (ha : PE X a (tO G da)) (hst : starEach [a] X.env = (false, eval a X.env) :: starEach [] X.env) :
    PE X (.Call (.Name "list" p1') [.Call (.Name "range" p2') [a] [] p3'] [] pos) (tD G (dPrim .list (dCons (dPrim .rng1 (dCons da dNil)) dNil))) :=
  peI (pe_listRg hc hg hm (prg_1 hgr hmr ha hst)) fun σ H Q h => tO_imp (args1 (prim_prim (f := fun d => (items d).map .list) rfl h)) fun v H1 ⟨A, F, w, ds, d1, d, s, o, r, e1, e2, f⟩ => by
    obtain ⟨dx, rfl, r1⟩ := RoAll1 r
    obtain ⟨j, rfl, ok, rfl⟩ := rng1_some (d := dx) e1
    cases e2
    exact ⟨j, r1.int, ok, fun q hq => f.lst s o hq (rg_all F 0 j)⟩
end
end
end Rx

set_option Elab.async false
set_option linter.all false
set_option maxRecDepth 100000
set_option maxHeartbeats 1000000
set_option autoImplicit false
namespace Rx
open PySem L2
open PySem.W (TotalLe sameRank dataLe AllAlike Sortable EachIs)
/-! ### insertion sort is the stable sort -/
section
variable {α : Type} {le : α → α → Bool}
theorem mem_ins {x z : α} : ∀ {l : List α}, z ∈ ins le x l ↔ z = x ∨ z ∈ l
  | [] => by simp [ins]
  | y :: ys => by
    unfold ins
    split
    · simp
    · simp only [List.mem_cons, mem_ins (l := ys)]
      constructor
      · rintro (h | h | h) <;> simp [h]
      · rintro (h | h | h) <;> simp [h]
theorem mem_isort {z : α} : ∀ {l : List α}, z ∈ isort le l ↔ z ∈ l
  | [] => by simp [isort]
  | x :: l => by simp only [isort, mem_ins, mem_isort (l := l), List.mem_cons]
theorem ins_sorted (t : TotalLe le) {x : α} : ∀ {l : List α}, l.Pairwise (fun a b => le a b = true) → (ins le x l).Pairwise (fun a b => le a b = true)
  | [], _ => by simp [ins]
  | y :: ys, h => by
    unfold ins
    rw [List.pairwise_cons] at h
    split
    · rename_i hx
      rw [List.pairwise_cons, List.pairwise_cons]
      refine ⟨fun z hz => ?_, h.1, h.2⟩
      rcases List.mem_cons.mp hz with rfl | hz
      · exact hx
      · exact t.trans _ _ _ hx (h.1 z hz)
    · rename_i hx
      rw [List.pairwise_cons]
      refine ⟨fun z hz => ?_, ins_sorted t h.2⟩
      rcases mem_ins.mp hz with rfl | hz
      · rcases t.total z y with q | q
        · exact absurd q hx
        · exact q
      · exact h.1 z hz
theorem isort_sorted (t : TotalLe le) : ∀ (l : List α), (isort le l).Pairwise (fun a b => le a b = true)
  | [] => by simp [isort]
  | x :: l => ins_sorted t (isort_sorted t l)
theorem ins_filter (t : TotalLe le) {x c : α} : ∀ {l : List α}, l.Pairwise (fun a b => le a b = true) → (ins le x l).filter (sameRank le c) = (x :: l).filter (sameRank le c)
  | [], _ => rfl
  | y :: ys, h => by
    unfold ins
    rw [List.pairwise_cons] at h
    split
    · rfl
    · rename_i hx
      rw [List.filter_cons, ins_filter t h.2]
      by_cases hc : sameRank le c x = true
      · have hy : sameRank le c y = false := by
          cases q : sameRank le c y with
          | false => rfl
          | true =>
            unfold sameRank at hc q
            rw [Bool.and_eq_true] at hc q
            exact absurd (t.trans _ _ _ hc.2 q.1) hx
        simp only [List.filter_cons, hc, hy, if_true, Bool.false_eq_true, if_false]
      · simp only [Bool.not_eq_true] at hc
        simp only [List.filter_cons, hc, Bool.false_eq_true, if_false]
theorem isort_filter (t : TotalLe le) {c : α} : ∀ (l : List α), (isort le l).filter (sameRank le c) = l.filter (sameRank le c)
  | [] => rfl
  | x :: l => by
    unfold isort
    rw [ins_filter t (isort_sorted t l), List.filter_cons, List.filter_cons, isort_filter t l]
theorem isort_merge (t : TotalLe le) (l : List α) : isort le l = l.mergeSort le := PySem.W.sort_unique t (isort_sorted t l) fun c => isort_filter t l
end
/-! ### the order is the library's -/
theorem ltI_eq : ∀ a b, ltI a b = PyProof.Rows.itemLt a b
  | .inl _, .inl _ => rfl
  | .inl _, .inr _ => rfl
  | .inr _, .inl _ => rfl
  | .inr _, .inr _ => rfl
theorem ltK_eq : ∀ a b, ltK a b = PyProof.Rows.lexLt PyProof.Rows.itemOrd a b
  | [], [] => rfl
  | [], _ :: _ => rfl
  | _ :: _, [] => rfl
  | x :: r, y :: t => by
    show (ltI x y || (!ltI y x && ltK r t)) = (PyProof.Rows.itemLt x y || (!PyProof.Rows.itemLt y x && PyProof.Rows.lexLt PyProof.Rows.itemOrd r t))
    rw [ltI_eq, ltI_eq, ltK_eq]
mutual
theorem kt_eq : ∀ d : D, kt d = PySem.W.keyToks d
  | .none => by rw [kt, PySem.W.keyToks]
  | .bool b => by rw [kt, PySem.W.keyToks]
  | .int b => by rw [kt, PySem.W.keyToks]
  | .str b => by rw [kt, PySem.W.keyToks]
  | .list xs => by rw [kt, PySem.W.keyToks, ktAll_eq xs]
  | .tuple xs => by rw [kt, PySem.W.keyToks, ktAll_eq xs]
  | .dict _ => by rw [kt, PySem.W.keyToks]
theorem ktAll_eq : ∀ ds : List D, ktAll ds = PySem.W.keyToksAll ds
  | [] => by rw [ktAll, PySem.W.keyToksAll]
  | x :: xs => by rw [ktAll, PySem.W.keyToksAll, kt_eq x, ktAll_eq xs]
end
theorem led_eq (x y : D) : led x y = dataLe false id x y := by
  unfold led ltd
  rw [ltK_eq, kt_eq, kt_eq]
  rfl
theorem led_total : TotalLe led := by
  have t := PySem.W.sortLe_total (PyProof.Rows.listOrd PyProof.Rows.itemOrd) false (fun b : D => PySem.W.keyToks b)
  refine ⟨fun a b c h1 h2 => ?_, fun a b => ?_⟩
  · rw [led_eq] at *; exact t.trans a b c h1 h2
  · rw [led_eq, led_eq]; exact t.total a b
mutual
theorem alk_eq : ∀ a b : D, alk a b = PySem.W.alike a b
  | .none, b => by cases b <;> simp [alk, PySem.W.alike]
  | .bool x, b => by cases b <;> simp [alk, PySem.W.alike]
  | .int i, b => by cases b <;> simp [alk, PySem.W.alike]
  | .str x, b => by cases b <;> simp [alk, PySem.W.alike]
  | .list xs, b => by
    cases b with
    | list ys => rw [alk, PySem.W.alike]; exact alkAll_eq xs ys
    | _ => simp [alk, PySem.W.alike]
  | .tuple xs, b => by
    cases b with
    | tuple ys => rw [alk, PySem.W.alike]; exact alkAll_eq xs ys
    | _ => simp [alk, PySem.W.alike]
  | .dict x, b => by cases b <;> simp [alk, PySem.W.alike]
theorem alkAll_eq : ∀ xs ys : List D, alkAll xs ys = PySem.W.alikeAll xs ys
  | [], ys => by cases ys <;> simp [alkAll, PySem.W.alikeAll]
  | x :: xs, [] => by simp [alkAll, PySem.W.alikeAll]
  | x :: xs, y :: ys => by rw [alkAll, PySem.W.alikeAll, alk_eq x y, alkAll_eq xs ys]
end
theorem srtOk_of {ds : List D} (h : srtOk ds = true) : AllAlike ds ∧ Sortable ds ∧ (∀ d ∈ ds, d.depth ≤ 8) ∧ ds.length ≤ zL := by
  unfold srtOk at h
  simp only [Bool.and_eq_true, Bool.or_eq_true, decide_eq_true_eq, List.all_eq_true] at h
  obtain ⟨⟨⟨h1, h2⟩, h3⟩, h4⟩ := h
  refine ⟨fun a ha b hb => by rw [← alk_eq]; exact h1 a ha b hb, ?_, fun d hd => depth_le 8 d (h3 d hd), h4⟩
  rcases h2 with h2 | h2
  · refine .inl fun d hd => ?_
    have q := h2 d hd
    unfold tup1 at q
    split at q
    · exact ⟨_, _, rfl⟩
    · cases q
  · refine .inr fun d hd => ?_
    have q := h2 d hd
    cases d <;> first | (cases q; done) | exact ⟨by simp, by simp⟩
section
variable {X : Cx} {G : Cg}
/-- the pairs of a value and what it stands for -/
theorem rp_zip {F : Hp} : ∀ {vs : List V} {ds : List D}, RpAll F vs ds → ∀ p ∈ vs.zip ds, Rp F p.1 p.2
  | [], _, _, p, hp => by simp at hp
  | _ :: _, [], _, p, hp => by simp at hp
  | v :: vs, d :: ds, h, p, hp => by
    cases h with
    | cons r t =>
      rw [List.zip_cons_cons] at hp
      rcases List.mem_cons.mp hp with rfl | hp
      · exact r
      · exact rp_zip t p hp
theorem rp_unzip {F : Hp} : ∀ (l : List (V × D)), (∀ p ∈ l, Rp F p.1 p.2) → RpAll F (l.map (·.1)) (l.map (·.2))
  | [], _ => .nil
  | p :: l, h => .cons (h p List.mem_cons_self) (rp_unzip l fun q hq => h q (List.mem_cons_of_mem _ hq))
/-- sorted(list) -/
def rSrt (K : PySem.W.Frag) : List V → Hp → VK → Prop := fun vs H Q => ∃ (a : Addr) (xs : List V) (ds : List D), vs = [V.ref a] ∧ H a = some (.lst xs) ∧ RpAll H xs ds ∧ srtOk ds = true ∧
  ∀ (ys : List V) (p : Addr), ys = ((xs.zip ds).mergeSort (fun p q => led p.2 q.2)).map (·.1) → H p = none → Q (.ref p) (upd H p (.lst ys))
theorem each_of {X : Cx} {pins : List (Addr × Obj)} {σ : St} {H : Hp} {s : Shared} (I : Inv X pins σ H s) : ∀ (xs : List V) (ds : List D) (us : List Value), RpAll H xs ds → Vals xs us →
    EachIs (fun v (b : V × D) => RelV b.1 v) us (xs.zip ds) ∧ EachIs (fun v (b : V × D) => ∃ as, Reads s.heap v b.2 as) us (xs.zip ds)
  | [], _, _, h, r => by cases h; cases r; exact ⟨.nil, .nil⟩
  | x :: xs, _, _, h, r => by
    cases h with
    | cons h1 h2 =>
      cases r with
      | cons r1 r2 =>
        obtain ⟨e1, e2⟩ := each_of I xs _ _ h2 r2
        exact ⟨.cons r1 e1, .cons (Dp.reads I _ _ _ h1.dp r1) e2⟩
theorem zip_snd {F : Hp} {xs : List V} {ds : List D} (r : RpAll F xs ds) : (xs.zip ds).map Prod.snd = ds := List.map_snd_zip (by rw [r.length]; exact Nat.le_refl _)
theorem zip_fst {F : Hp} {xs : List V} {ds : List D} (r : RpAll F xs ds) : (xs.zip ds).map Prod.fst = xs := List.map_fst_zip (by rw [r.length]; exact Nat.le_refl _)
theorem vals_each : ∀ {us : List Value} {bs : List (V × D)}, EachIs (fun v (b : V × D) => RelV b.1 v) us bs → Vals (bs.map (·.1)) us
  | _, _, .nil => .nil
  | _, _, .cons h t => .cons h (vals_each t)
theorem cr_srt (hu : X.A.units + 64 < cLine) : CallR X (.builtin "sorted") (rSrt X.K) := by
  intro pins s σ H vs us Q I r h
  obtain ⟨a, xs, ds, rfl, ha, rp, ok, q⟩ := h
  obtain ⟨al, so, dp, hz⟩ := srtOk_of ok
  obtain ⟨its, rv, hl, hzl⟩ := I.list (SqL.of ha)
  rw [Vals.ref1 r]
  obtain ⟨e1, e2⟩ := each_of I xs ds its rp rv
  have hzip : (xs.zip ds).map Prod.snd = ds := zip_snd rp
  refine PySem.W.sorted_data (enc := Prod.snd) hl.isList e1 e2 (by rw [hzip]; exact al) (by rw [hzip]; exact so) ?_ (fun b hb => ?_) fun out ho eo => ?_
  · rw [List.length_zip, rp.length, Nat.min_self]; exact zl hz
  · have := dp b.2 (by rw [← hzip]; exact List.mem_map.mpr ⟨b, hb, rfl⟩)
    omega
  · obtain ⟨ep, he'⟩ := PyProof.Rows.sortedAll_at s.heap its out.toArray
    have eq : (xs.zip ds).mergeSort (dataLe false Prod.snd) = (xs.zip ds).mergeSort (fun p q => led p.2 q.2) := PySem.W.sort_congr fun a _ b _ => (led_eq a.2 b.2).symm
    rw [eq] at eo
    have vl := vals_each eo
    have hlen : (((xs.zip ds).mergeSort (fun p q => led p.2 q.2)).map (·.1)).length ≤ sizeLine := by
      rw [List.length_map, List.length_mergeSort, List.length_zip, rp.length, Nat.min_self]
      exact zl hz
    exact ⟨.ref _, upd H (s.heap.objs.size + 1) (.lst _), I.laid (t' := s.toks) (fun _ _ => PyProof.Rows.sortedAll_old) (Nat.le_succ _) ⟨hlen, out, ep, vl, by simpa using he'⟩, rfl, q _ _ rfl (I.hok.fresh (Nat.le_succ _))⟩
theorem srt_all {F : Hp} {xs : List V} {ds : List D} (r : RpAll F xs ds) : RpAll F (((xs.zip ds).mergeSort (fun p q => led p.2 q.2)).map (·.1)) (isort led ds) := by
  have e : ((xs.zip ds).mergeSort (fun p q => led p.2 q.2)).map (·.2) = isort led ds := by
    rw [isort_merge led_total]
    have := PySem.W.sort_maps (r := fun p q : V × D => led p.2 q.2) (s := led) Prod.snd (l := xs.zip ds) fun _ _ _ _ => rfl
    rw [zip_snd r] at this
    exact this
  rw [← e]
  refine rp_unzip _ fun p hp => ?_
  exact rp_zip r p ((List.mem_mergeSort).mp hp)
theorem fs_sorted (hu : X.A.units + 64 < cLine) : ∀ Q vs H, (∃ A F w v ds d, vs = [v] ∧ Same F H ∧ Omg G.C A F H w ∧ Ro G.K A F H v (.list ds) ∧ sortedP (.list ds) = some d ∧ Fin G A F H w d Q) → rSrt X.K vs H Q := by
  intro Q vs H ⟨A, F, w, v, ds, d, e1, s, o, r, e, f⟩
  subst e1
  replace e : (if srtOk ds then some (PyData.list (isort led ds)) else none) = some d := e
  split at e
  · rename_i ok; cases e
    obtain ⟨a, xs, rfl, ha, rp⟩ := r.lst s
    refine ⟨a, xs, ds, rfl, ha, rp.mono s, ok, fun ys p hy hp => ?_⟩
    subst hy
    exact f.lst s o hp (srt_all rp)
  · cases e
end
end Rx

set_option Elab.async false
set_option linter.all false
set_option maxRecDepth 100000
set_option maxHeartbeats 1000000
set_option autoImplicit false
namespace Rx
open PySem L2
/-! ### targets -/
/-- slots set: each one as before, or bound anew -/
structure Up (F : Hp) (is : List Nat) (σ : St) (r : Env) (σ' : St) (r' : Env) : Prop where
  l1 : σ'.length = σ.length
  l2 : r'.length = r.length
  at_ : ∀ i : Nat, (σ'[i]? = σ[i]? ∧ r'[i]? = r[i]?) ∨ (i ∈ is ∧ ∃ v d, σ'[i]? = some (some v) ∧ r'[i]? = some (some d) ∧ Rp F v d)
theorem Up.refl {F : Hp} {is : List Nat} {σ : St} {r : Env} : Up F is σ r σ r := ⟨rfl, rfl, fun _ => .inl ⟨rfl, rfl⟩⟩
theorem Up.trans {F : Hp} {is js : List Nat} {σ σ1 σ2 : St} {r r1 r2 : Env} (a : Up F is σ r σ1 r1) (b : Up F js σ1 r1 σ2 r2) : Up F (is ++ js) σ r σ2 r2 := by
  refine ⟨b.l1.trans a.l1, b.l2.trans a.l2, fun i => ?_⟩
  rcases b.at_ i with ⟨h1, h2⟩ | ⟨hi, v, d, h1, h2, h3⟩
  · rcases a.at_ i with ⟨g1, g2⟩ | ⟨gi, v, d, g1, g2, g3⟩
    · exact .inl ⟨h1.trans g1, h2.trans g2⟩
    · exact .inr ⟨List.mem_append_left _ gi, v, d, h1.trans g1, h2.trans g2, g3⟩
  · exact .inr ⟨List.mem_append_right _ hi, v, d, h1, h2, h3⟩
theorem Up.one {F : Hp} {i : Nat} {σ : St} {r : Env} {v : V} {d : D} (l : σ.length = r.length) (h : Rp F v d) : Up F [i] σ r (σ.set i (some v)) (r.set i (some d)) := by
  refine ⟨List.length_set, List.length_set, fun j => ?_⟩
  by_cases hj : i = j
  · subst hj
    by_cases hl : i < σ.length
    · exact .inr ⟨List.mem_singleton.mpr rfl, v, d, by rw [List.getElem?_set_self hl], by rw [List.getElem?_set_self (by omega)], h⟩
    · refine .inl ⟨?_, ?_⟩
      · rw [List.getElem?_eq_none (by rw [List.length_set]; omega), List.getElem?_eq_none (by omega)]
      · rw [List.getElem?_eq_none (by rw [List.length_set]; omega), List.getElem?_eq_none (by omega)]
  · exact .inl ⟨List.getElem?_set_ne hj, List.getElem?_set_ne hj⟩
theorem Up.rel {K : PySem.W.Frag} {C : Addr} {M : List Nat} {A : List Addr} {F H : Hp} {σ σ' : St} {r r' : Env} {w : Om} {is : List Nat} (u : Up F is σ r σ' r') (h : Rel K C M A F H σ r w) (hM : ∀ i ∈ is, M.contains i = false) : Rel K C M A F H σ' r' w := by
  have oo : ∀ i d, i ∈ is → ownd M i d = false := fun i d hi => by unfold ownd; rw [hM i hi]; rfl
  have back : ∀ i d, r'[i]? = some (some d) → ownd M i d = true → σ'[i]? = σ[i]? ∧ r[i]? = some (some d) := fun i d e o => by
    rcases u.at_ i with ⟨h1, h2⟩ | ⟨hi, _⟩
    · exact ⟨h1, h2 ▸ e⟩
    · rw [oo i d hi] at o; cases o
  refine ⟨h.fh, h.om, by rw [u.l1, u.l2]; exact h.len, fun i d e q => ?_, fun i d e q => ?_, fun i j d e p hij h1 h2 o1 o2 h3 => ?_⟩
  · rcases u.at_ i with ⟨h1, h2⟩ | ⟨hi, v, d', h1, h2, h3⟩
    · rw [h2] at e
      rw [h1]
      exact h.fro i d e q
    · rw [h2] at e; cases e
      exact ⟨v, h1, .inl h3⟩
  · obtain ⟨b1, b2⟩ := back i d e q
    rw [b1]
    exact h.own i d b2 q
  · obtain ⟨b1, b2⟩ := back i d h1 o1
    obtain ⟨c1, c2⟩ := back j e h2 o2
    rw [b1] at h3
    rw [c1]
    exact h.dis i j d e p hij b2 c2 o1 o2 h3
mutual
def slotsT : Tg → List Nat
  | .nm i => [i]
  | .tp ts => slotsTs ts
def slotsTs : List Tg → List Nat
  | [] => []
  | t :: ts => slotsT t ++ slotsTs ts
end
/-- a target, by data -/
def tG (t : Tg) : TG := fun v σ H Q => ∃ F d r r', Rp F v d ∧ Same F H ∧ σ.length = r.length ∧ bindT t d r = some r' ∧ ∀ σ', Up F (slotsT t) σ r σ' r' → Q σ' H
def tGs (ts : List Tg) : TGs := fun vs σ H Q => ∃ F ds r r', RpAll F vs ds ∧ Same F H ∧ σ.length = r.length ∧ bindTs ts ds r = some r' ∧ ∀ σ', Up F (slotsTs ts) σ r σ' r' → Q σ' H
section
variable {X : Cx} {e : Expr} {es : List Expr} {pos : Pos}
theorem pgI {tg : Expr} {t t' : TG} (h : PG X tg t) (i : ∀ v σ H Q, t' v σ H Q → t v σ H Q) : PG X tg t' := ⟨fun pins s σ H v u Q I r q => h.run pins s σ H v u Q I r (i v σ H Q q)⟩
theorem pgsI {tg : List Expr} {t t' : TGs} (h : PGs X tg t) (i : ∀ v σ H Q, t' v σ H Q → t v σ H Q) : PGs X tg t' := ⟨fun pins s σ H v u Q I r q => h.run pins s σ H v u Q I r (i v σ H Q q)⟩
theorem pgd_name {i : Nat} {x : Str} (hN : X.N.Nodup) (hi : X.N[i]? = some x) (hx : Loc X.env.scope x) (hf : X.fn x = true ∨ X.env.scope.names.lookup x = some .local) : PG X (.Name x pos) (tG (.nm i)) :=
  pgI (pg_name hN hi hx hf) fun v σ H Q ⟨F, d, r, r', rp, s, l, e, q⟩ => by
    rw [bindT] at e; cases e
    exact q _ (Up.one l rp)
theorem pgsd_nil : PGs X [] (tGs []) := pgsI pgs_nil fun vs σ H Q ⟨F, ds, r, r', rp, s, l, e, q⟩ => by
  cases rp with
  | nil => rw [bindTs] at e; cases e; exact ⟨rfl, q _ .refl⟩
  | cons _ _ => simp [bindTs] at e
theorem pgsd_cons {t : Tg} {ts : List Tg} (h1 : PG X e (tG t)) (h2 : PGs X es (tGs ts)) (hs : (assignEach (e :: es) X.env).map (·.2) = assign e X.env :: (assignEach es X.env).map (·.2)) : PGs X (e :: es) (tGs (t :: ts)) :=
  pgsI (pgs_cons h1 h2 hs) fun vs σ H Q ⟨F, ds, r, r', rp, s, l, e, q⟩ => by
    cases rp with
    | nil => simp [bindTs] at e
    | @cons v vs' d ds' rp1 rps =>
      rw [bindTs] at e
      cases h : bindT t d r with
      | none => rw [h] at e; cases e
      | some r1 =>
        rw [h] at e
        refine ⟨v, vs', rfl, F, d, r, r1, rp1, s, l, h, fun σ1 u1 => ⟨F, ds', r1, r', rps, s, by rw [u1.l1, u1.l2]; exact l, e, fun σ2 u2 => q σ2 ?_⟩⟩
        rw [slotsTs]
        exact u1.trans u2
theorem pgd_tup {ts : List Tg} {k : Nat} (hc : X.calm = true) (h : PGs X es (tGs ts)) (hl : es.length = ts.length) (hn : (assignEach es X.env).length = es.length) (hst : (assignEach es X.env).findIdx? (·.1) = none) : PG X (.Tuple es k pos) (tG (.tp ts)) :=
  pgI (pg_tup (n := es.length) hc h hn hst) fun v σ H Q ⟨F, d, r, r', rp, s, l, e, q⟩ => by
    cases rp with
    | tup ha rps =>
      rw [bindT] at e
      have e2 : ∀ (ts : List Tg) (ds : List D) (r r' : Env), bindTs ts ds r = some r' → ds.length = ts.length := by
        intro ts
        induction ts with
        | nil => intro ds r r' h; cases ds with
          | nil => rfl
          | cons => simp [bindTs] at h
        | cons t ts ih => intro ds r r' h; cases ds with
          | nil => simp [bindTs] at h
          | cons d ds =>
            rw [bindTs] at h
            cases h1 : bindT t d r with
            | none => rw [h1] at h; cases h
            | some r1 => rw [h1] at h; rw [List.length_cons, List.length_cons, ih ds r1 r' h]
      refine ⟨_, _, rfl, .inl (.inl (s _ _ ha)), by rw [rps.length, hl]; exact e2 _ _ _ _ e, F, _, r, r', rps, s, l, e, fun σ' u => q σ' ?_⟩
      rw [slotsT]
      exact u
    | _ => simp [bindT] at e
end
/-- slots changed within vs only -/
theorem Up.wipe {F : Hp} {is vs : List Nat} {σ σ' : St} {r r' : Env} (u : Up F is σ r σ' r') (h : ∀ i ∈ is, i ∈ vs) : wipe σ' vs = wipe σ vs := by
  have key : ∀ (vs : List Nat) (τ : St) (i : Nat), (L2.wipe τ vs)[i]? = if i ∈ vs then (τ[i]?).map (fun _ => none) else τ[i]? := by
    intro vs
    induction vs with
    | nil => intro τ i; simp [L2.wipe]
    | cons v vs ih =>
      intro τ i
      unfold L2.wipe
      by_cases hv : v = i
      · subst hv
        by_cases hl : v < (L2.wipe τ vs).length
        · rw [List.getElem?_set_self hl, if_pos List.mem_cons_self]
          rw [wipe_length] at hl
          rw [List.getElem?_eq_getElem hl]; rfl
        · rw [List.getElem?_eq_none (by rw [List.length_set]; omega), if_pos List.mem_cons_self]
          rw [wipe_length] at hl
          rw [List.getElem?_eq_none (by omega)]; rfl
      · rw [List.getElem?_set_ne hv, ih τ i]
        have : (i ∈ v :: vs) ↔ i ∈ vs := by simp only [List.mem_cons]; constructor <;> intro q; (rcases q with q | q; exact absurd q.symm hv; exact q); exact .inr q
        simp only [this]
  apply List.ext_getElem?
  intro i
  rw [key, key]
  rcases u.at_ i with ⟨h1, _⟩ | ⟨hi, _⟩
  · rw [h1]
  · have hi' := h i hi
    rw [if_pos hi', if_pos hi']
    by_cases hl : i < σ.length
    · rw [List.getElem?_eq_getElem hl, List.getElem?_eq_getElem (by rw [u.l1]; exact hl)]; rfl
    · have hu := u.l1
      rw [List.getElem?_eq_none (show σ'.length ≤ i by omega), List.getElem?_eq_none (show σ.length ≤ i by omega)]
theorem wipeR_get : ∀ (vs : List Nat) (r : Env) (i : Nat) (d : D), (wipeR r vs)[i]? = some (some d) → r[i]? = some (some d) ∧ i ∉ vs
  | [], r, i, d, h => ⟨h, by simp⟩
  | v :: vs, r, i, d, h => by
    unfold wipeR at h
    by_cases hi : v = i
    · subst hi
      by_cases hv : v < (wipeR r vs).length
      · rw [List.getElem?_set_self hv] at h; cases h
      · rw [List.getElem?_eq_none (by rw [List.length_set]; omega)] at h; cases h
    · rw [List.getElem?_set_ne hi] at h
      obtain ⟨h1, h2⟩ := wipeR_get vs r i d h
      exact ⟨h1, by simp only [List.mem_cons, not_or]; exact ⟨fun e => hi e.symm, h2⟩⟩
theorem wipeR_len : ∀ (vs : List Nat) (r : Env), (wipeR r vs).length = r.length
  | [], _ => rfl
  | v :: vs, r => by unfold wipeR; rw [List.length_set, wipeR_len vs r]
theorem wipe_keep : ∀ (vs : List Nat) (σ : St) (i : Nat), i ∉ vs → (wipe σ vs)[i]? = σ[i]?
  | [], σ, i, _ => rfl
  | v :: vs, σ, i, h => by
    simp only [List.mem_cons, not_or] at h
    unfold wipe
    rw [List.getElem?_set_ne (fun e => h.1 e.symm)]
    exact wipe_keep vs σ i h.2
/-- the slots of the block forgotten on both sides -/
theorem Rel.wipe {K : PySem.W.Frag} {C : Addr} {M : List Nat} {A : List Addr} {F H : Hp} {σ : St} {r : Env} {w : Om} (h : Rel K C M A F H σ r w) (vs : List Nat) : Rel K C M A F H (wipe σ vs) (wipeR r vs) w := by
  refine ⟨h.fh, h.om, by rw [wipe_length, wipeR_len]; exact h.len, fun i d e q => ?_, fun i d e q => ?_, fun i j d e p hij h1 h2 o1 o2 h3 => ?_⟩
  · obtain ⟨e1, e2⟩ := wipeR_get vs r i d e
    rw [wipe_keep vs σ i e2]
    exact h.fro i d e1 q
  · obtain ⟨e1, e2⟩ := wipeR_get vs r i d e
    rw [wipe_keep vs σ i e2]
    exact h.own i d e1 q
  · obtain ⟨a1, a2⟩ := wipeR_get vs r i d h1
    obtain ⟨b1, b2⟩ := wipeR_get vs r j e h2
    rw [wipe_keep vs σ i a2] at h3
    rw [wipe_keep vs σ j b2]
    exact h.dis i j d e p hij a1 b1 o1 o2 h3

/-! ### what is walked -/
/-- J gives the data ds one after another, wherever the heaps go on as Step says -/
structure ItS (J : It) (A : List Addr) (F H : Hp) (ds : List D) : Prop where
  go : ∀ A2 F2 H2 (i : Nat), Step A F H A2 F2 H2 → i < ds.length → J.go i H2
  yld : ∀ A2 F2 H2 (i : Nat) x H3, Step A F H A2 F2 H2 → i < ds.length → J.yld i H2 x H3 → ∃ F3 d, Step A2 F2 H2 A2 F3 H3 ∧ (∀ p u, H2 p = some u → H3 p = some u) ∧ ds[i]? = some d ∧ Rp F3 x d
  stop : ∀ A2 F2 H2 (i : Nat), Step A F H A2 F2 H2 → ds.length ≤ i → J.stop i H2
/-- .. wherever what stands for good stands -/
structure ItF (J : It) (F : Hp) (ds : List D) : Prop where
  go : ∀ F2 H2 (i : Nat), Same F F2 → Same F2 H2 → i < ds.length → J.go i H2
  yld : ∀ (A2 : List Addr) F2 H2 (i : Nat) x H3, Same F F2 → Same F2 H2 → i < ds.length → J.yld i H2 x H3 → ∃ F3 d, Step A2 F2 H2 A2 F3 H3 ∧ (∀ p u, H2 p = some u → H3 p = some u) ∧ ds[i]? = some d ∧ Rp F3 x d
  stop : ∀ F2 H2 (i : Nat), Same F F2 → Same F2 H2 → ds.length ≤ i → J.stop i H2
theorem ItF.s {J : It} {A : List Addr} {F H : Hp} {ds : List D} (h : ItF J F ds) : ItS J A F H ds :=
  ⟨fun A2 F2 H2 i s => h.go F2 H2 i s.ff s.fh, fun A2 F2 H2 i x H3 s => h.yld A2 F2 H2 i x H3 s.ff s.fh, fun A2 F2 H2 i s => h.stop F2 H2 i s.ff s.fh⟩
theorem itF_list {K : PySem.W.Frag} {F : Hp} {a : Addr} {vs : List V} {ds : List D} (ha : F a = some (.lst vs)) (r : RpAll F vs ds) : ItF (Itl K a) F ds := by
  refine ⟨fun F2 H2 i s1 s2 hi => ?_, fun A2 F2 H2 i x H3 s1 s2 hi hy => ?_, fun F2 H2 i s1 s2 hi => ?_⟩
  · have hl : i < vs.length := by rw [r.length]; exact hi
    exact ⟨vs, vs[i], .inl (.inl (s2 _ _ (s1 _ _ ha))), List.getElem?_eq_getElem hl⟩
  · obtain ⟨rfl, h⟩ := hy
    obtain ⟨d, e1, e2⟩ := r.getV (h vs (.inl (.inl (s2 _ _ (s1 _ _ ha)))))
    exact ⟨F2, d, .refl s2, fun _ _ e => e, e1, e2.mono s1⟩
  · exact ⟨vs, .inl (.inl (s2 _ _ (s1 _ _ ha))), by rw [r.length]; exact hi⟩
theorem itF_tup {K : PySem.W.Frag} {F : Hp} {a : Addr} {vs : List V} {ds : List D} (ha : F a = some (.tup vs)) (r : RpAll F vs ds) : ItF (Itt K a) F ds := by
  refine ⟨fun F2 H2 i s1 s2 hi => ?_, fun A2 F2 H2 i x H3 s1 s2 hi hy => ?_, fun F2 H2 i s1 s2 hi => ?_⟩
  · have hl : i < vs.length := by rw [r.length]; exact hi
    exact ⟨vs, vs[i], .inl (.inl (s2 _ _ (s1 _ _ ha))), List.getElem?_eq_getElem hl⟩
  · obtain ⟨rfl, h⟩ := hy
    obtain ⟨d, e1, e2⟩ := r.getV (h vs (.inl (.inl (s2 _ _ (s1 _ _ ha)))))
    exact ⟨F2, d, .refl s2, fun _ _ e => e, e1, e2.mono s1⟩
  · exact ⟨vs, .inl (.inl (s2 _ _ (s1 _ _ ha))), by rw [r.length]; exact hi⟩
theorem itS_own {K : PySem.W.Frag} {A : List Addr} {F H : Hp} {a : Addr} {vs : List V} {ds : List D} (ha : H a = some (.lst vs)) (r : RpAll F vs ds) : ItS (Itl K a) A F H ds := by
  refine ⟨fun A2 F2 H2 i s hi => ?_, fun A2 F2 H2 i x H3 s hi hy => ?_, fun A2 F2 H2 i s hi => ?_⟩
  · have hl : i < vs.length := by rw [r.length]; exact hi
    exact ⟨vs, vs[i], .inl (.inl (s.hh _ _ ha rfl)), List.getElem?_eq_getElem hl⟩
  · obtain ⟨rfl, h⟩ := hy
    obtain ⟨d, e1, e2⟩ := r.getV (h vs (.inl (.inl (s.hh _ _ ha rfl))))
    exact ⟨F2, d, .refl s.fh, fun _ _ e => e, e1, e2.mono s.ff⟩
  · exact ⟨vs, .inl (.inl (s.hh _ _ ha rfl)), by rw [r.length]; exact hi⟩
theorem itF_rng (F : Hp) (i j : Int) : ItF (Itr i (j - i).toNat) F (rangeD i j) := by
  have hl : (rangeD i j).length = (j - i).toNat := by unfold rangeD; rw [List.length_map, List.length_range]
  refine ⟨fun F2 H2 k s1 s2 hk => ?_, fun A2 F2 H2 k x H3 s1 s2 hk hy => ?_, fun F2 H2 k s1 s2 hk => ?_⟩
  · show k < (j - i).toNat; omega
  · obtain ⟨rfl, rfl⟩ := hy
    refine ⟨F2, .int (i + (k : Nat)), .refl s2, fun _ _ e => e, ?_, .int _⟩
    unfold rangeD
    rw [List.getElem?_map, List.getElem?_range (by omega)]
    rfl
  · show (j - i).toNat ≤ k; omega
theorem enumD_get {ds : List D} {i : Nat} {d : D} (h : ds[i]? = some d) : (enumD ds)[i]? = some (.tuple [.int (i : Nat), d]) := by
  unfold enumD
  have hl : i < ds.length := (List.getElem?_eq_some_iff.mp h).1
  rw [List.getElem?_zipWith, List.getElem?_range hl, h]
theorem enumD_len (ds : List D) : (enumD ds).length = ds.length := by unfold enumD; simp
theorem same_new {F : Hp} {p : Addr} {u : HO} (h : F p = none) : Same F (upd F p u) := fun b x e => by rw [upd_ne (ne_of_none e h)]; exact e
theorem keep_new {H : Hp} {p : Addr} {u : HO} (h : H p = none) : ∀ b x, H b = some x → (upd H p u) b = some x := fun b x e => by rw [upd_ne (ne_of_none e h)]; exact e
theorem itF_enumL {K : PySem.W.Frag} {F : Hp} {a : Addr} {vs : List V} {ds : List D} (ha : F a = some (.lst vs)) (r : RpAll F vs ds) : ItF (Ite K a) F (enumD ds) := by
  refine ⟨fun F2 H2 i s1 s2 hi => ?_, fun A2 F2 H2 i x H3 s1 s2 hi hy => ?_, fun F2 H2 i s1 s2 hi => ?_⟩
  · rw [enumD_len] at hi
    have hl : i < vs.length := by rw [r.length]; exact hi
    exact ⟨vs, vs[i], .inl (.inl (s2 _ _ (s1 _ _ ha))), List.getElem?_eq_getElem hl⟩
  · obtain ⟨T, y, rfl, hT, rfl, h⟩ := hy
    obtain ⟨d, e1, e2⟩ := r.getV (h vs (.inl (.inl (s2 _ _ (s1 _ _ ha)))))
    refine ⟨upd F2 T (.tup [.int (i : Nat), y]), _, .new s2 hT, keep_new hT, enumD_get e1, .tup upd_same ?_⟩
    exact .cons (.int _) (.cons ((e2.mono s1).mono (same_new (s2.free hT))) .nil)
  · rw [enumD_len] at hi
    exact ⟨vs, .inl (.inl (s2 _ _ (s1 _ _ ha))), by rw [r.length]; exact hi⟩
/-- the reading of a source -/
def PostI (G : Cg) (frz : Bool) (R : It → Hp → Prop) (σ : St) (A : List Addr) (F H : Hp) : RL → Om → Prop
  | .vals ds, w => ∀ J A' F' H', Step A F H A' F' H' → Omg G.C A' F' H' w → (if frz = true then ItF J F' ds else ItS J A' F' H' ds) → R J H'
  | .exc x, w => ∀ cls dd A' F' H', Step A F H A' F' H' → Omg G.C A' F' H' w → XRep G.ec F' H' cls dd x → G.W cls dd σ H'
def tI (G : Cg) (frz : Bool) (e : Exs) : TI := fun σ H R => ∃ A F r w x w', Rel G.K G.C G.M A F H σ r w ∧ e G.c r w = some (x, w') ∧ PostI G frz R σ A F H x w'

section
variable {X : Cx} {G : Cg} {a b tg elt : Expr} {da db : Ex} {des : Exs} {pos : Pos}
theorem tI_imp {frz : Bool} {e : Exs} {R R' : It → Hp → Prop} {σ : St} {H : Hp} (h : tI G frz e σ H R) (i : ∀ J H, R J H → R' J H) : tI G frz e σ H R' := by
  obtain ⟨A, F, r, w, x, w', rel, e, post⟩ := h
  refine ⟨A, F, r, w, x, w', rel, e, ?_⟩
  cases x with
  | vals d => exact fun v A' F' H' s o q => i _ _ (post v A' F' H' s o q)
  | exc x => exact post
/-- over a value that stands for good: a list -/
theorem seq_list {σ : St} {H : Hp} {R : It → Hp → Prop} {frz : Bool} {rp : List Addr → Hp → Hp → V → D → Prop} (h : tI G frz (iSeq da) σ H R)
    (hrp : ∀ A F H v d ds, Same F H → rp A F H v d → items d = some ds → (∃ a vs, v = .ref a ∧ H a = some (.lst vs) ∧ (∃ xs, SqL X.K H a xs) ∧ (if frz = true then ItF (Itl X.K a) F ds else ItS (Itl X.K a) A F H ds)) ∨ (∃ a vs, v = .ref a ∧ F a = some (.tup vs) ∧ RpAll F vs ds)) :
    ∃ A F r w x w', Rel G.K G.C G.M A F H σ r w ∧ da G.c r w = some (x, w') ∧ Post G rp (fun v H1 => (∃ a, v = .ref a ∧ (∃ xs, SqL X.K H1 a xs) ∧ R (Itl X.K a) H1) ∨ (∃ a, v = .ref a ∧ (∃ xs, SqT X.K H1 a xs) ∧ R (Itt X.K a) H1)) σ A F H x w' := by
  obtain ⟨A, F, r, w, x, w', rel, e, post⟩ := h
  unfold iSeq at e
  cases h1 : da G.c r w with
  | none => rw [h1] at e; cases e
  | some pr =>
    obtain ⟨x1, w1⟩ := pr
    rw [h1] at e
    cases x1 with
    | exc y => cases e; exact ⟨A, F, r, w, .exc y, _, rel, h1, post⟩
    | val d =>
      simp only at e
      rw [Option.map_eq_some_iff] at e
      obtain ⟨ds, hi, e⟩ := e
      cases e
      refine ⟨A, F, r, w, .val d, _, rel, h1, fun v A1 F1 H1 s1 o1 r1 => ?_⟩
      rcases hrp A1 F1 H1 v d ds s1.fh r1 hi with ⟨a, vs, rfl, ha, hx, hit⟩ | ⟨a, vs, rfl, ha, hr⟩
      · exact .inl ⟨a, rfl, hx, post _ A1 F1 H1 s1 o1 hit⟩
      · refine .inr ⟨a, rfl, ⟨vs, .inl (.inl (s1.fh _ _ ha))⟩, post _ A1 F1 H1 s1 o1 ?_⟩
        split
        · exact itF_tup ha hr
        · exact (itF_tup ha hr).s
/-- an expression whose value is a list or a tuple, walked -/
theorem pi_seq {t : TE} (h : PE X a t) : PI X tg a (fun σ H R => t σ H fun v H1 => (∃ p, v = .ref p ∧ (∃ xs, SqL X.K H1 p xs) ∧ R (Itl X.K p) H1) ∨ (∃ p, v = .ref p ∧ (∃ xs, SqT X.K H1 p xs) ∧ R (Itt X.K p) H1)) := by
  refine ⟨fun pins s σ H R I hq => ?_⟩
  refine thn (h.run pins s σ H _ I hq) fun v s1 ⟨x, H1, I1, r1, q1⟩ => ?_
  rcases q1 with ⟨p, e, hx, q⟩ | ⟨p, e, hx, q⟩
  · subst e
    cases r1
    obtain ⟨xs, hq⟩ := hx
    obtain ⟨its, rv, pl, hz⟩ := I1.list hq
    refine wpAny_pyIter_list pl.isList ?_
    refine ⟨s1.heap.objs.size, [s1.heap.objs.size], _, _, H1, rfl, I1.kept (t' := s1.toks) fun b o e => Heap.get?_push_of_some _ e, turn_list p _, ⟨_, Heap.get?_push_size _ rfl, rfl, rfl⟩, fun b hb => ?_, q⟩
    have e : b = s1.heap.objs.size := by simpa using hb
    subst e
    exact I1.fpOk (Nat.le_refl _) (I1.hok.fresh (Nat.le_refl _))
  · subst e
    cases r1
    obtain ⟨xs, hq⟩ := hx
    obtain ⟨its, rv, pl, hz⟩ := I1.tuple hq
    refine wpAny_pyIter_tuple (show s1.heap.IsTuple p its.toArray from pl) ?_
    refine ⟨s1.heap.objs.size, [s1.heap.objs.size], _, _, H1, rfl, I1.kept (t' := s1.toks) fun b o e => Heap.get?_push_of_some _ e, turn_tuple p _, ⟨_, Heap.get?_push_size _ rfl, rfl, rfl⟩, fun b hb => ?_, q⟩
    have e : b = s1.heap.objs.size := by simpa using hb
    subst e
    exact I1.fpOk (Nat.le_refl _) (I1.hok.fresh (Nat.le_refl _))
theorem pid_seqF (h : PE X a (tD G da)) : PI X tg a (tI G true (iSeq da)) := piI (pi_seq h) fun σ H R q => by
  refine seq_list (rp := fun A F _ v d => Rt G.K A F v d) q fun A F H v d ds s r hi => ?_
  rcases items_some hi with rfl | rfl
  · have r := r.plain rfl
    cases r with
    | lst ha hr => exact .inl ⟨_, _, rfl, s _ _ ha, ⟨_, .inl (.inl (s _ _ ha))⟩, by rw [if_pos rfl]; exact itF_list ha hr⟩
  · have r := r.plain rfl
    cases r with
    | tup ha hr => exact .inr ⟨_, _, rfl, ha, hr⟩
theorem pid_seqS (h : PE X a (tO G da)) : PI X tg a (tI G false (iSeq da)) := piI (pi_seq h) fun σ H R q => by
  refine seq_list (rp := fun A F H v d => Ro G.K A F H v d) q fun A F H v d ds s r hi => ?_
  rcases items_some hi with rfl | rfl
  · obtain ⟨p, vs, rfl, ha, hr⟩ := r.lst s
    exact .inl ⟨p, vs, rfl, ha, ⟨vs, .inl (.inl ha)⟩, by rw [if_neg (by decide)]; exact itS_own ha hr⟩
  · obtain ⟨p, vs, rfl, ha, hr⟩ := r.tup
    exact .inr ⟨p, vs, rfl, ha, hr⟩
/-- range(n), range(a, b) -/
theorem rng_args {frz : Bool} {R : It → Hp → Prop} {σ : St} {H : Hp} (h : tI G frz (iRng des) σ H R) : tOs G des σ H fun vs H1 => (∃ j : Int, vs = [.int j] ∧ -(2 ^ 62) ≤ j ∧ j < 2 ^ 62 ∧ R (Itr 0 j.toNat) H1) ∨ (∃ i j : Int, vs = [.int i, .int j] ∧ (-(2 ^ 62) ≤ i ∧ i < 2 ^ 62 ∧ -(2 ^ 62) ≤ j ∧ j < 2 ^ 62) ∧ R (Itr i (j - i).toNat) H1) := by
  obtain ⟨A, F, r, w, x, w', rel, e, post⟩ := h
  unfold iRng at e
  have fin : ∀ {F : Hp} {A : List Addr} {H : Hp} {i j : Int}, (if frz = true then ItF (Itr i (j - i).toNat) F (rangeD i j) else ItS (Itr i (j - i).toNat) A F H (rangeD i j)) := fun {F A H i j} => by
    split
    · exact itF_rng F i j
    · exact (itF_rng F i j).s
  split at e
  · rename_i j w1 he
    split at e
    · rename_i hj; cases e
      unfold inR at hj
      simp only [Bool.and_eq_true, decide_eq_true_eq] at hj
      refine ⟨A, F, r, w, .vals [.int j], _, rel, he, fun vs A1 F1 H1 s1 o1 r1 => .inl ?_⟩
      obtain ⟨v, e1, e2⟩ := one_of r1
      subst e1
      refine ⟨j, by rw [e2.int], hj.1, hj.2, ?_⟩
      have := post (Itr 0 (j - 0).toNat) A1 F1 H1 s1 o1 fin
      rwa [Int.sub_zero] at this
    · cases e
  · rename_i i j w1 he
    split at e
    · rename_i hj; cases e
      unfold inR at hj
      simp only [Bool.and_eq_true, decide_eq_true_eq] at hj
      refine ⟨A, F, r, w, .vals [.int i, .int j], _, rel, he, fun vs A1 F1 H1 s1 o1 r1 => .inr ?_⟩
      obtain ⟨v, u, e1, e2, e3⟩ := two_of r1
      subst e1
      exact ⟨i, j, by rw [e2.int, e3.int], ⟨hj.1.1, hj.1.2, hj.2.1, hj.2.2⟩, post _ A1 F1 H1 s1 o1 fin⟩
    · cases e
  · rename_i y w1 he
    cases e
    exact ⟨A, F, r, w, .exc y, _, rel, he, post⟩
  · cases e
where
  one_of {K : PySem.W.Frag} {A : List Addr} {F H : Hp} {vs : List V} {d : D} (h : RoAll K A F H vs [d]) : ∃ v, vs = [v] ∧ Ro K A F H v d := by
    cases h with
    | cons a t => cases t; exact ⟨_, rfl, a⟩
  two_of {K : PySem.W.Frag} {A : List Addr} {F H : Hp} {vs : List V} {d e : D} (h : RoAll K A F H vs [d, e]) : ∃ v u, vs = [v, u] ∧ Ro K A F H v d ∧ Ro K A F H u e := by
    cases h with
    | cons a t =>
      cases t with
      | cons b t => cases t; exact ⟨_, _, rfl, a, b⟩
/-- an argument list of one, of two -/
theorem dCons_some {c : Cf} {r : Env} {w w' : Om} {ds : List D} (h : dCons da des c r w = some (.vals ds, w')) : ∃ d ds' w1, ds = d :: ds' ∧ da c r w = some (.val d, w1) ∧ des c r w1 = some (.vals ds', w') := by
  unfold dCons at h
  cases h1 : da c r w with
  | none => rw [h1] at h; cases h
  | some p =>
    obtain ⟨x, w1⟩ := p
    rw [h1] at h
    cases x with
    | exc y => cases h
    | val d =>
      simp only at h
      cases h2 : des c r w1 with
      | none => rw [h2] at h; cases h
      | some p =>
        obtain ⟨x, w2⟩ := p
        rw [h2] at h
        cases x with
        | exc y => cases h
        | vals ds' => cases h; exact ⟨d, ds', w1, rfl, rfl, h2⟩
theorem dNil_some {c : Cf} {r : Env} {w w' : Om} {ds : List D} (h : dNil c r w = some (.vals ds, w')) : ds = [] := by cases h; rfl
theorem pid_rng1 {frz : Bool} {p : Pos} (hg : Gl X "range") (hm : X.mg "range" = none) (ha : PE X a (tO G da)) (hs : starEach [a] X.env = [(false, eval a X.env)]) : PI X tg (.Call (.Name "range" p) [a] [] pos) (tI G frz (iRng (dCons da dNil))) :=
  piI (pi_range1 hg hm (pao_cons ha pao_nil (by rw [hs]; rfl)) hs) fun σ H R q => by
    have h := rng_args q
    -- one value comes
    obtain ⟨A, F, r, w, x, w', rel, e, post⟩ := h
    refine ⟨A, F, r, w, x, w', rel, e, ?_⟩
    cases x with
    | exc y => exact post
    | vals ds =>
      intro vs A1 F1 H1 s1 o1 r1
      rcases post vs A1 F1 H1 s1 o1 r1 with ⟨j, h1, h2, h3, h4⟩ | ⟨i, j, h1, _⟩
      · exact ⟨j, h1, h2, h3, h4⟩
      · have hl : ds.length = 1 := by
          obtain ⟨d, ds', w1, rfl, _, e2⟩ := dCons_some e
          rw [dNil_some e2]; rfl
        subst h1
        cases r1 with
        | cons _ t => cases t with
          | cons _ t => cases t; simp at hl
theorem pid_rng2 {frz : Bool} {p : Pos} (hg : Gl X "range") (hm : X.mg "range" = none) (ha : PE X a (tO G da)) (hb : PE X b (tO G db)) (hs : starEach [a, b] X.env = [(false, eval a X.env), (false, eval b X.env)]) (hs2 : starEach [b] X.env = [(false, eval b X.env)]) : PI X tg (.Call (.Name "range" p) [a, b] [] pos) (tI G frz (iRng (dCons da (dCons db dNil)))) :=
  piI (pi_range2 hg hm (pao_cons ha (pao_cons hb pao_nil (by rw [hs2]; rfl)) (by rw [hs, hs2])) hs hs2) fun σ H R q => by
    have h := rng_args q
    obtain ⟨A, F, r, w, x, w', rel, e, post⟩ := h
    refine ⟨A, F, r, w, x, w', rel, e, ?_⟩
    cases x with
    | exc y => exact post
    | vals ds =>
      intro vs A1 F1 H1 s1 o1 r1
      rcases post vs A1 F1 H1 s1 o1 r1 with ⟨j, h1, _⟩ | ⟨i, j, h1, h2, h3⟩
      · have hl : ds.length = 2 := by
          obtain ⟨d, ds', w1, rfl, _, e2⟩ := dCons_some e
          obtain ⟨d2, ds2, w2, rfl, _, e3⟩ := dCons_some e2
          rw [dNil_some e3]; rfl
        subst h1
        cases r1 with
        | cons _ t => cases t; simp at hl
      · exact ⟨i, j, h1, h2, h3⟩
end
end Rx

set_option Elab.async false
set_option linter.all false
set_option maxRecDepth 100000
set_option maxHeartbeats 1000000
set_option autoImplicit false
namespace Rx
open PySem L2
/-! ### a new list that is not for good yet -/
def Frs (H F' H' : Hp) (v : V) (d : D) : Prop := ∃ (p : Addr) (vs : List V) (ds : List D), v = .ref p ∧ d = .list ds ∧ H p = none ∧ H' p = some (.lst vs) ∧ F' p = none ∧ RpAll F' vs ds
def PostF (G : Cg) (Q : VK) (σ : St) (A : List Addr) (F H : Hp) : R → Om → Prop
  | .val d, w => ∀ v A' F' H', Step A F H A' F' H' → Omg G.C A' F' H' w → Frs H F' H' v d → Q v H'
  | .exc x, w => ∀ cls dd A' F' H', Step A F H A' F' H' → Omg G.C A' F' H' w → XRep G.ec F' H' cls dd x → G.W cls dd σ H'
def tF (G : Cg) (e : Ex) : TE := fun σ H Q => ∃ A F r w x w', Rel G.K G.C G.M A F H σ r w ∧ e G.c r w = some (x, w') ∧ PostF G Q σ A F H x w'
theorem Step.fresh {A A' : List Addr} {F F' H H' : Hp} (s : Step A F H A' F' H') {p : Addr} (h : H' p = none) : H p = none := by
  cases e : H p with
  | none => rfl
  | some o =>
    cases o with
    | ext φ => obtain ⟨fs', q⟩ := s.ins p φ e; rw [h] at q; cases q
    | _ => have q := s.hh p _ e rfl; rw [h] at q; cases q
/-- it is made to stand for good -/
theorem Step.freeze {A A' : List Addr} {F F' H H' : Hp} (s : Step A F H A' F' H') {p : Addr} {u : HO} (h : H p = none) (hp : H' p = some u) (fp : F' p = none) : Step A F H A' (upd F' p u) H' := by
  refine ⟨s.ext, s.ff.trans (same_new fp), fun b x e => ?_, s.hh, s.ins, fun b x e => ?_⟩
  · by_cases hb : b = p
    · subst hb; rw [upd_same] at e; rw [hp]; exact e
    · rw [upd_ne hb] at e; exact s.fh b x e
  · rw [upd_ne (ne_of_none e h)]; exact s.old b x e
theorem Omg.freeze {C : Addr} {A : List Addr} {F H : Hp} {w : Om} (o : Omg C A F H w) {p : Addr} {vs : List V} (hp : H p = some (.lst vs)) (fp : F p = none) : Omg C A (upd F p (.lst vs)) H w := by
  refine ⟨o.len, o.nd, fun i a fs h1 h2 => ?_⟩
  obtain ⟨L, e1, e2, r, nd⟩ := o.at_ i a fs h1 h2
  have : a ≠ p := fun z => by subst z; rw [hp] at e1; cases e1
  exact ⟨L, e1, by rw [upd_ne this]; exact e2, r.mono (same_new fp), nd⟩
theorem Frs.rt {K : PySem.W.Frag} {A : List Addr} {H F' H' : Hp} {v : V} {d : D} (h : Frs H F' H' v d) : ∃ (p : Addr) (vs : List V), H p = none ∧ H' p = some (.lst vs) ∧ F' p = none ∧ Rt K A (upd F' p (.lst vs)) v d := by
  obtain ⟨p, vs, ds, rfl, rfl, h1, h2, h3, r⟩ := h
  exact ⟨p, vs, h1, h2, h3, .inl (.lst upd_same (r.mono (same_new h3)))⟩
theorem tD_tF {G : Cg} {e : Ex} {σ : St} {H : Hp} {Q : VK} (h : tD G e σ H Q) : tF G e σ H Q := by
  obtain ⟨A, F, r, w, x, w', rel, he, post⟩ := h
  refine ⟨A, F, r, w, x, w', rel, he, ?_⟩
  cases x with
  | exc y => exact post
  | val d =>
    intro v A' F' H' s o q
    obtain ⟨p, vs, h1, h2, h3, rt⟩ := q.rt (K := G.K) (A := A')
    exact post v A' _ H' (s.freeze h1 h2 h3) (o.freeze h2 h3) rt
theorem wipe_wipe (σ : St) (vs : List Nat) : wipe (wipe σ vs) vs = wipe σ vs := by
  have key : ∀ (vs : List Nat) (τ : St) (i : Nat), (L2.wipe τ vs)[i]? = if i ∈ vs then (τ[i]?).map (fun _ => none) else τ[i]? := by
    intro vs
    induction vs with
    | nil => intro τ i; simp [L2.wipe]
    | cons v vs ih =>
      intro τ i
      unfold L2.wipe
      by_cases hv : v = i
      · subst hv
        by_cases hl : v < (L2.wipe τ vs).length
        · rw [List.getElem?_set_self hl, if_pos List.mem_cons_self]
          rw [wipe_length] at hl
          rw [List.getElem?_eq_getElem hl]; rfl
        · rw [List.getElem?_eq_none (by rw [List.length_set]; omega), if_pos List.mem_cons_self]
          rw [wipe_length] at hl
          rw [List.getElem?_eq_none (by omega)]; rfl
      · rw [List.getElem?_set_ne hv, ih τ i]
        have : (i ∈ v :: vs) ↔ i ∈ vs := by simp only [List.mem_cons]; constructor <;> intro q; (rcases q with q | q; exact absurd q.symm hv; exact q); exact .inr q
        simp only [this]
  apply List.ext_getElem?
  intro i
  rw [key, key]
  split
  · cases σ[i]? <;> rfl
  · rfl
/-- the context of a block: nothing is raised out of it -/
def mOut (M own : List Nat) : List Nat := M.filter fun i => !own.contains i
theorem mOut_not {M own : List Nat} {i : Nat} (h : i ∈ own) : (mOut M own).contains i = false := by
  rw [Bool.eq_false_iff]
  intro q
  have := List.mem_filter.mp (List.contains_iff_mem.mp q)
  simp [h] at this
theorem mOut_same {M own : List Nat} {i : Nat} (h : i ∉ own) : (mOut M own).contains i = M.contains i := by
  rw [Bool.eq_iff_iff, List.contains_iff_mem, List.contains_iff_mem]
  unfold mOut
  rw [List.mem_filter]
  simp [h]
theorem Rel.wipeM {K : PySem.W.Frag} {C : Addr} {M : List Nat} {A : List Addr} {F H : Hp} {σ : St} {r : Env} {w : Om} (h0 : Rel K C M A F H σ r w) (vs : List Nat) : Rel K C (mOut M vs) A F H (L2.wipe σ vs) (wipeR r vs) w := by
  have h := h0.wipe vs
  have key : ∀ (i : Nat) (d : D), (wipeR r vs)[i]? = some (some d) → ownd (mOut M vs) i d = ownd M i d := fun i d e => by
    unfold ownd; rw [mOut_same (wipeR_get vs r i d e).2]
  refine ⟨h.fh, h.om, h.len, fun i d e q => h.fro i d e (by rw [← key i d e]; exact q), fun i d e q => h.own i d e (by rw [← key i d e]; exact q), fun i j d e p hij h1 h2 o1 o2 h3 => h.dis i j d e p hij h1 h2 (by rw [← key i d h1]; exact o1) (by rw [← key j e h2]; exact o2) h3⟩
def Cg.blk (G : Cg) (own : List Nat) : Cg := { G with W := fun _ _ _ _ => False, M := mOut G.M own }
def tCond (G : Cg) : Option Ex → TT
  | none => tYes
  | some t => tT G t
theorem one_some {e : Ex} {c : Cf} {r : Env} {w w' : Om} {ys : List D} (h : one e c r w = some (ys, w')) : ∃ d, ys = [d] ∧ plain d = true ∧ e c r w = some (.val d, w') := by
  unfold one at h
  split at h
  · rename_i d w1 he
    split at h
    · rename_i hp; cases h; exact ⟨d, rfl, hp, he⟩
    · cases h
  · cases h
/-- a new object of a list under way is written -/
theorem Step.write {A A' : List Addr} {F F' H H' : Hp} (s : Step A F H A' F' H') {p : Addr} {u : HO} (h : H p = none) (fp : F' p = none) : Step A F H A' F' (upd H' p u) := by
  refine ⟨s.ext, s.ff, fun b x e => ?_, fun b x e i => ?_, fun b φ e => ?_, s.old⟩
  · rw [upd_ne (ne_of_none e fp)]; exact s.fh b x e
  · rw [upd_ne (ne_of_none e h)]; exact s.hh b x e i
  · obtain ⟨fs', q⟩ := s.ins b φ e
    exact ⟨fs', by rw [upd_ne (ne_of_none e h)]; exact q⟩
theorem Omg.write {C : Addr} {A : List Addr} {F H : Hp} {w : Om} (o : Omg C A F H w) {p : Addr} {vs : List V} {u : HO} (hp : H p = some (.lst vs)) : Omg C A F (upd H p u) w := by
  refine ⟨o.len, o.nd, fun i a fs h1 h2 => ?_⟩
  obtain ⟨L, e1, e2, r, nd⟩ := o.at_ i a fs h1 h2
  have : a ≠ p := fun z => by subst z; rw [hp] at e1; cases e1
  exact ⟨L, by rw [upd_ne this]; exact e1, e2, r, nd⟩
section
variable {G : Cg} {src : Exs} {tg : Tg} {cond : Option Ex} {elt : Ex} {own : List Nat} {σ : St} {H : Hp} {Q : VK}
theorem lc_read (hsl : ∀ i ∈ slotsT tg, i ∈ own) (h : tF G (dComp src tg cond elt own) σ H Q) : tLc (tI G false src) (tG tg) (tCond (G.blk own) cond) (tD (G.blk own) elt) own σ H Q := by
  obtain ⟨A, F, r, w, x, w', rel, e, post⟩ := h
  unfold dComp at e
  cases h1 : src G.c r w with
  | none => rw [h1] at e; cases e
  | some pr =>
    obtain ⟨x1, w1⟩ := pr
    rw [h1] at e
    cases x1 with
    | exc y => cases e; exact ⟨A, F, r, w, .exc y, _, rel, h1, post⟩
    | vals xs =>
      simp only at e
      cases h2 : compGo G.c (wipeR r own) tg cond (one elt) xs w1 with
      | none => rw [h2] at e; cases e
      | some pr =>
        obtain ⟨ys, w2⟩ := pr
        rw [h2] at e
        simp only at e
        split at e
        · rename_i hlen
          cases e
          refine ⟨A, F, r, w, .vals xs, w1, rel, h1, fun J A1 F1 H1 s1 o1 hit => fun Dd hD => ?_⟩
          rw [if_neg (by decide)] at hit
          have fD : F1 Dd = none := s1.fh.free hD
          refine ⟨fun i m Hc => m = xs.length - i ∧ i ≤ xs.length ∧ ∃ Ac Fc wc acc dacc rest, Step A1 F1 H1 Ac Fc Hc ∧ Omg G.C Ac Fc Hc wc ∧ Hc Dd = some (.lst acc) ∧ Fc Dd = none ∧ RpAll Fc acc dacc ∧ compGo G.c (wipeR r own) tg cond (one elt) (xs.drop i) wc = some (rest, w') ∧ dacc ++ rest = ys,
            ⟨xs.length, by simp, Nat.zero_le _, A1, F1, w1, [], [], ys, .newO s1.fh hD, o1.new (.newO s1.fh hD) (keep_new hD), upd_same, fD, .nil, by rw [List.drop_zero]; exact h2, by simp⟩, ?_⟩
          rintro i m Hc ⟨rfl, hi, Ac, Fc, wc, acc, dacc, rest, sc, oc, hDc, fDc, rc, gc, ec⟩
          by_cases hlt : i < xs.length
          · -- a turn
            have hdrop : xs.drop i = xs[i] :: xs.drop (i + 1) := List.drop_eq_getElem_cons hlt
            rw [hdrop] at gc
            unfold compGo at gc
            cases hb : bindT tg xs[i] (wipeR r own) with
            | none => rw [hb] at gc; cases gc
            | some r1 =>
              rw [hb] at gc
              simp only at gc
              refine .inr ⟨hit.go Ac Fc Hc i sc hlt, fun H' => (i + 1 ≤ xs.length ∧ ∃ Ac Fc wc acc dacc rest, Step A1 F1 H1 Ac Fc H' ∧ Omg G.C Ac Fc H' wc ∧ H' Dd = some (.lst acc) ∧ Fc Dd = none ∧ RpAll Fc acc dacc ∧ compGo G.c (wipeR r own) tg cond (one elt) (xs.drop (i + 1)) wc = some (rest, w') ∧ dacc ++ rest = ys), fun H' hn => ⟨xs.length - (i + 1), by omega, rfl, hn⟩, fun v H3 hy => ?_⟩
              obtain ⟨F3, d, s3, k3, ed, rv⟩ := hit.yld Ac Fc Hc i v H3 sc hlt hy
              have : d = xs[i] := by rw [List.getElem?_eq_getElem hlt] at ed; exact (Option.some.inj ed).symm
              subst this
              have sc3 := sc.trans s3
              have o3 := oc.new s3 k3
              have rel3 := ((rel.step (s1.trans sc3) o3).wipeM own)
              refine ⟨F3, xs[i], wipeR r own, r1, rv, s3.fh, rel3.len, hb, fun σ2 u2 => ⟨?_, ?_⟩⟩
              · rw [u2.wipe hsl, wipe_wipe]
              · have rel4 : Rel G.K G.C (mOut G.M own) Ac F3 H3 σ2 r1 wc := u2.rel rel3 fun j hj => mOut_not (hsl j hj)
                have hD3 : H3 Dd = some (.lst acc) := k3 _ _ hDc
                have fD3 : F3 Dd = none := by rw [s3.old _ _ hDc]; exact fDc
                -- what is left behind the test
                have key : ∀ (A4 : List Addr) (F4 H4 : Hp) (w4 : Om) (b : Bool), Step Ac F3 H3 A4 F4 H4 → Omg G.C A4 F4 H4 w4 →
                    (match b with
                      | false => compGo G.c (wipeR r own) tg cond (one elt) (xs.drop (i + 1)) w4
                      | true => match one elt G.c r1 w4 with
                        | none => none
                        | some (ys, w2) => (compGo G.c (wipeR r own) tg cond (one elt) (xs.drop (i + 1)) w2).map fun (zs, w3) => (ys ++ zs, w3)) = some (rest, w') →
                    if b = true then tD (G.blk own) elt σ2 H4 (fun y H5 => ∃ acc, H5 Dd = some (.lst acc) ∧ acc.length < sizeLine ∧ (i + 1 ≤ xs.length ∧ ∃ Ac Fc wc acc' dacc rest, Step A1 F1 H1 Ac Fc (upd H5 Dd (.lst (acc ++ [y]))) ∧ Omg G.C Ac Fc (upd H5 Dd (.lst (acc ++ [y]))) wc ∧ (upd H5 Dd (.lst (acc ++ [y]))) Dd = some (.lst acc') ∧ Fc Dd = none ∧ RpAll Fc acc' dacc ∧ compGo G.c (wipeR r own) tg cond (one elt) (xs.drop (i + 1)) wc = some (rest, w') ∧ dacc ++ rest = ys))
                    else (i + 1 ≤ xs.length ∧ ∃ Ac Fc wc acc dacc rest, Step A1 F1 H1 Ac Fc H4 ∧ Omg G.C Ac Fc H4 wc ∧ H4 Dd = some (.lst acc) ∧ Fc Dd = none ∧ RpAll Fc acc dacc ∧ compGo G.c (wipeR r own) tg cond (one elt) (xs.drop (i + 1)) wc = some (rest, w') ∧ dacc ++ rest = ys) := by
                  intro A4 F4 H4 w4 b s4 o4 hg
                  have hD4 : H4 Dd = some (.lst acc) := s4.hh _ _ hD3 rfl
                  have fD4 : F4 Dd = none := by rw [s4.old _ _ hD3]; exact fD3
                  cases b with
                  | false =>
                    rw [if_neg (by decide)]
                    exact ⟨by omega, A4, F4, w4, acc, dacc, rest, sc3.trans s4, o4, hD4, fD4, (rc.mono s3.ff).mono s4.ff, hg, ec⟩
                  | true =>
                    rw [if_pos rfl]
                    simp only at hg
                    cases hone : one elt G.c r1 w4 with
                    | none => rw [hone] at hg; cases hg
                    | some pr =>
                      obtain ⟨ys1, w5⟩ := pr
                      rw [hone] at hg
                      simp only at hg
                      rw [Option.map_eq_some_iff] at hg
                      obtain ⟨⟨zs, w6⟩, hg1, hg2⟩ := hg
                      simp only [Prod.mk.injEq] at hg2
                      obtain ⟨hr, hw⟩ := hg2
                      subst hw
                      obtain ⟨dy, rfl, hp, he⟩ := one_some hone
                      refine ⟨A4, F4, r1, w4, .val dy, w5, rel4.step s4 o4, he, fun y A5 F5 H5 s5 o5 r5 => ⟨acc, s5.hh _ _ hD4 rfl, ?_, by omega, A5, F5, w5, acc ++ [y], dacc ++ [dy], zs, ?_, ?_, upd_same, ?_, ?_, hg1, ?_⟩⟩
                      · have hl : acc.length < ys.length := by
                          rw [rc.length, ← ec, ← hr]
                          simp
                        exact Nat.lt_of_lt_of_le hl (zl hlen)
                      · exact ((sc3.trans s4).trans s5).write hD (by rw [s5.old _ _ hD4]; exact fD4)
                      · exact o5.write (s5.hh _ _ hD4 rfl)
                      · rw [s5.old _ _ hD4]; exact fD4
                      · exact (((rc.mono s3.ff).mono s4.ff).mono s5.ff).append (.cons (r5.plain hp) .nil)
                      · rw [← ec, ← hr, List.append_assoc]
                cases cond with
                | none => exact key Ac F3 H3 wc true (.refl s3.fh) o3 gc
                | some t =>
                  simp only at gc
                  cases ht : t G.c r1 wc with
                  | none => rw [ht] at gc; cases gc
                  | some pr =>
                    obtain ⟨xt, w4⟩ := pr
                    rw [ht] at gc
                    cases xt with
                    | exc y => cases gc
                    | val d =>
                      simp only at gc
                      cases htr : truth d with
                      | none => rw [htr] at gc; cases gc
                      | some b =>
                        rw [htr] at gc
                        refine ⟨Ac, F3, r1, wc, .val d, w4, rel4, ht, b, htr, fun A4 F4 H4 s4 o4 => key A4 F4 H4 w4 b s4 o4 ?_⟩
                        cases b with
                        | false => exact gc
                        | true => exact gc
          · have hi' : i = xs.length := by omega
            subst hi'
            rw [List.drop_length] at gc
            unfold compGo at gc
            cases gc
            refine .inl ⟨hit.stop Ac Fc Hc _ sc (Nat.le_refl _), post (.ref Dd) Ac Fc Hc (s1.trans sc) oc ⟨Dd, acc, ys, rfl, rfl, s1.fresh hD, hDc, fDc, ?_⟩⟩
            rw [List.append_nil] at ec
            rw [← ec]; exact rc
        · cases e
end
end Rx

set_option Elab.async false
set_option linter.all false
set_option maxRecDepth 100000
set_option maxHeartbeats 1000000
set_option autoImplicit false
namespace Rx
open PySem L2
/-! ### statements: the slots, and the heap since the def's entry -/
structure RelS (G : Cg) (A : List Addr) (F H : Hp) (σ : St) (r : Env) (w : Om) : Prop where
  rel : Rel G.K G.C G.M A F H σ r w
  ent : Step G.A0 G.F0 G.H0 A F H
  new : ∀ (i : Nat) (d : D) (p : Addr), r[i]? = some (some d) → ownd G.M i d = true → σ[i]? = some (some (.ref p)) → G.H0 p = none
theorem RelS.step {G : Cg} {A A' : List Addr} {F H F' H' : Hp} {σ : St} {r : Env} {w w' : Om} (h : RelS G A F H σ r w) (s : Step A F H A' F' H') (o : Omg G.C A' F' H' w') : RelS G A' F' H' σ r w' := ⟨h.rel.step s o, h.ent.trans s, h.new⟩
def PostS (G : Cg) (Dd : Ends) (F : Hp) : Out → Om → Prop
  | .next r, w => ∀ σ A' F' H', RelS G A' F' H' σ r w → Same F F' → Dd.nx σ H'
  | .ret d, w => ∀ v A' F' H', Step G.A0 G.F0 G.H0 A' F' H' → Omg G.C A' F' H' w → Rt G.K A' F' v d → Dd.rt v H'
  | .exc x r, w => ∀ cls dd σ A' F' H', RelS G A' F' H' σ r w → XRep G.ec F' H' cls dd x → G.W cls dd σ H'
def tS (G : Cg) (s : Sx) : TS := fun Dd σ H => ∃ A F r w x w', RelS G A F H σ r w ∧ s G.c r w = some (x, w') ∧ PostS G Dd F x w'
section
variable {X : Cx} {G : Cg} {a b c e : Expr} {st : Stmt} {rest sa sb : List Stmt} {da db dc de : Ex} {dsa dsb : Sx} {pos : Pos}
/-- an expression ahead of what follows in a statement -/
theorem tO_of {A : List Addr} {F H : Hp} {σ : St} {r : Env} {w w1 : Om} {x : R} {Q : VK} (rs : RelS G A F H σ r w) (he : de G.c r w = some (x, w1))
    (hv : ∀ d, x = .val d → ∀ v A' F' H', Step A F H A' F' H' → RelS G A' F' H' σ r w1 → Ro G.K A' F' H' v d → Q v H')
    (hx : ∀ y, x = .exc y → ∀ cls dd A' F' H', RelS G A' F' H' σ r w1 → XRep G.ec F' H' cls dd y → G.W cls dd σ H') : tO G de σ H Q := by
  refine ⟨A, F, r, w, x, w1, rs.rel, he, ?_⟩
  cases x with
  | val d => exact fun v A' F' H' s o ro => hv d rfl v A' F' H' s (rs.step s o) ro
  | exc y => exact fun cls dd A' F' H' s o q => hx y rfl cls dd A' F' H' (rs.step s o) q
theorem tD_of {A : List Addr} {F H : Hp} {σ : St} {r : Env} {w w1 : Om} {x : R} {Q : VK} (rs : RelS G A F H σ r w) (he : de G.c r w = some (x, w1))
    (hv : ∀ d, x = .val d → ∀ v A' F' H', Step A F H A' F' H' → RelS G A' F' H' σ r w1 → Rt G.K A' F' v d → Q v H')
    (hx : ∀ y, x = .exc y → ∀ cls dd A' F' H', RelS G A' F' H' σ r w1 → XRep G.ec F' H' cls dd y → G.W cls dd σ H') : tD G de σ H Q := by
  refine ⟨A, F, r, w, x, w1, rs.rel, he, ?_⟩
  cases x with
  | val d => exact fun v A' F' H' s o ro => hv d rfl v A' F' H' s (rs.step s o) ro
  | exc y => exact fun cls dd A' F' H' s o q => hx y rfl cls dd A' F' H' (rs.step s o) q
theorem tT_of {A : List Addr} {F H : Hp} {σ : St} {r : Env} {w w1 : Om} {x : R} {Q : Bool → Hp → Prop} (rs : RelS G A F H σ r w) (he : de G.c r w = some (x, w1))
    (hv : ∀ d, x = .val d → ∃ b, truth d = some b ∧ ∀ A' F' H', Step A F H A' F' H' → RelS G A' F' H' σ r w1 → Q b H')
    (hx : ∀ y, x = .exc y → ∀ cls dd A' F' H', RelS G A' F' H' σ r w1 → XRep G.ec F' H' cls dd y → G.W cls dd σ H') : tT G de σ H Q := by
  refine ⟨A, F, r, w, x, w1, rs.rel, he, ?_⟩
  cases x with
  | val d =>
    obtain ⟨b, hb, q⟩ := hv d rfl
    exact ⟨b, hb, fun A' F' H' s o => q A' F' H' s (rs.step s o)⟩
  | exc y => exact fun cls dd A' F' H' s o q => hx y rfl cls dd A' F' H' (rs.step s o) q
theorem PostS.mono {Dd : Ends} {F F1 : Hp} {x : Out} {w : Om} (h : PostS G Dd F x w) (s : Same F F1) : PostS G Dd F1 x w := by
  cases x with
  | next r => exact fun σ A' F' H' rs k => h σ A' F' H' rs (s.trans k)
  | ret d => exact h
  | exc x r => exact h
/-! ### blocks -/
theorem pssd_nil : PSs X [] (tS G sPass) := pssI pss_nil fun Dd σ H ⟨A, F, r, w, x, w', rs, e, post⟩ => by
  cases e
  exact post σ A F H rs (.refl _)
theorem psd_pass : PS X (.Pass pos) (tS G sPass) := psI ps_pass fun Dd σ H ⟨A, F, r, w, x, w', rs, e, post⟩ => by
  cases e
  exact post σ A F H rs (.refl _)
theorem pssd_one (h : PS X st (tS G dsa)) : PSs X [st] (tS G dsa) := pss_one h
theorem pssd_cons (h1 : PS X st (tS G dsa)) (h2 : PSs X rest (tS G dsb)) : PSs X (st :: rest) (tS G (sSeq dsa dsb)) :=
  pssI (pss_cons h1 h2) fun Dd σ H ⟨A, F, r, w, x, w', rs, e, post⟩ => by
    unfold sSeq at e
    cases h1 : dsa G.c r w with
    | none => rw [h1] at e; cases e
    | some pr =>
      obtain ⟨x1, w1⟩ := pr
      rw [h1] at e
      refine ⟨A, F, r, w, x1, w1, rs, h1, ?_⟩
      cases x1 with
      | ret d => cases e; exact post
      | exc y r1 => cases e; exact post
      | next r1 => exact fun σ1 A1 F1 H1 rs1 k1 => ⟨A1, F1, r1, w1, x, w', rs1, e, post.mono k1⟩
theorem psd_if (hc : PT X c (tT G dc)) (ha : PSs X sa (tS G dsa)) (hb : PSs X sb (tS G dsb)) : PS X (.If c sa sb pos) (tS G (sIf dc dsa dsb)) :=
  psI (ps_if hc ha hb) fun Dd σ H ⟨A, F, r, w, x, w', rs, e, post⟩ => by
    unfold sIf at e
    cases h1 : dc G.c r w with
    | none => rw [h1] at e; cases e
    | some pr =>
      obtain ⟨x1, w1⟩ := pr
      rw [h1] at e
      refine tT_of rs h1 (fun d hd => ?_) (fun y hy cls dd A' F' H' rs' xr => ?_)
      · subst hd
        simp only at e
        cases ht : truth d with
        | none => rw [ht] at e; cases e
        | some k =>
          rw [ht] at e
          refine ⟨k, rfl, fun A1 F1 H1 s1 rs1 => ?_⟩
          cases k with
          | true => exact iteT ⟨A1, F1, r, w1, x, w', rs1, e, post.mono s1.ff⟩
          | false => exact iteF ⟨A1, F1, r, w1, x, w', rs1, e, post.mono s1.ff⟩
      · subst hy
        cases e
        exact post cls dd σ A' F' H' rs' xr
/-- a list of a slot made to stand for good -/
theorem RelS.rt {A : List Addr} {F H : Hp} {σ : St} {r : Env} {w : Om} {v : V} {d : D} (rs : RelS G A F H σ r w) (ro : Ro G.K A F H v d) (hv : ∀ p, Ow F H v d → v = .ref p → G.H0 p = none) : ∃ F', Step G.A0 G.F0 G.H0 A F' H ∧ Omg G.C A F' H w ∧ Rt G.K A F' v d := by
  rcases ro with rt | ow
  · exact ⟨F, rs.ent, rs.rel.om, rt⟩
  · have ow' := ow
    obtain ⟨p, vs, ds, rfl, rfl, hp, fp, rv⟩ := ow
    exact ⟨upd F p (.lst vs), rs.ent.freeze (hv p ow' rfl) hp fp, rs.rel.om.freeze hp fp, .inl (.lst upd_same (rv.mono (same_new fp)))⟩
theorem psd_ret (he : PE X e (tD G de)) : PS X (.Return (some e) pos) (tS G (sRet de)) :=
  psI (ps_ret he) fun Dd σ H ⟨A, F, r, w, x, w', rs, e, post⟩ => by
    unfold sRet at e
    cases h1 : de G.c r w with
    | none => rw [h1] at e; cases e
    | some pr =>
      obtain ⟨x1, w1⟩ := pr
      rw [h1] at e
      refine tD_of rs h1 (fun d hd v A1 F1 H1 s1 rs1 rt => ?_) (fun y hy cls dd A' F' H' rs' xr => ?_)
      · subst hd; cases e
        exact post v A1 F1 H1 rs1.ent rs1.rel.om rt
      · subst hy; cases e
        exact post cls dd σ A' F' H' rs' xr
theorem dVar_some {i : Nat} {c : Cf} {r : Env} {w w' : Om} {x : R} (h : dVar i c r w = some (x, w')) : ∃ d, r[i]? = some (some d) ∧ x = .val d ∧ w' = w := by
  unfold dVar at h
  split at h
  · rename_i d hr; cases h; exact ⟨d, hr, rfl, rfl⟩
  · cases h
/-- return x, x a list that was changed in place -/
theorem psd_retV {i : Nat} {x : Str} {p2 : Pos} (hN : X.N[i]? = some x) (hv : Vis X.env.scope x) (hd : (x == ("__debug__" : Str)) = false) (hcd : (x == ("__classdict__" : Str)) = false) : PS X (.Return (some (.Name x p2)) pos) (tS G (sRet (dVar i))) :=
  psI (ps_ret (pe_var hN hv hd hcd)) fun Dd σ H ⟨A, F, r, w, y, w', rs, e, post⟩ => by
    unfold sRet at e
    cases h1 : dVar i G.c r w with
    | none => rw [h1] at e; cases e
    | some pr =>
      obtain ⟨x1, w1⟩ := pr
      obtain ⟨d, hr, rfl, rfl⟩ := dVar_some h1
      rw [h1] at e
      cases e
      cases q : ownd G.M i d with
      | false =>
        obtain ⟨v, e1, e2⟩ := rs.rel.fro i d hr q
        exact ⟨v, e1, post v A F H rs.ent rs.rel.om e2⟩
      | true =>
        obtain ⟨v, e1, e2⟩ := rs.rel.own i d hr q
        obtain ⟨F', s', o', rt⟩ := rs.rt (.inr e2) fun p _ hp => rs.new i d p hr q (by rw [e1, hp])
        exact ⟨v, e1, post v A F' H s' o' rt⟩
theorem psd_retN : PS X (.Return none pos) (tS G (sRet (dC .none))) := psI ps_retN fun Dd σ H ⟨A, F, r, w, x, w', rs, e, post⟩ => by
  cases e
  exact post .non A F H rs.ent rs.rel.om (.inl .non)
theorem psd_expr (he : PE X e (tO G de)) (hs : swapsWith e none pos.line X.env = pure false) : PS X (.Expr e pos) (tS G (sExpr de)) :=
  psI (ps_expr he hs) fun Dd σ H ⟨A, F, r, w, x, w', rs, e, post⟩ => by
    unfold sExpr at e
    cases h1 : de G.c r w with
    | none => rw [h1] at e; cases e
    | some pr =>
      obtain ⟨x1, w1⟩ := pr
      rw [h1] at e
      refine tO_of rs h1 (fun d hd v A1 F1 H1 s1 rs1 ro => ?_) (fun y hy cls dd A' F' H' rs' xr => ?_)
      · subst hd; cases e
        exact post σ A1 F1 H1 rs1 s1.ff
      · subst hy; cases e
        exact post cls dd σ A' F' H' rs' xr
/-! ### stores -/
theorem RelS.set {A : List Addr} {F H : Hp} {σ : St} {r : Env} {w : Om} {i : Nat} {v : V} {d : D} (rs : RelS G A F H σ r w) (rt : Rt G.K A F v d) (hd : ownd G.M i d = false) : RelS G A F H (σ.set i (some v)) (r.set i (some d)) w := by
  have old : ∀ j e, (r.set i (some d))[j]? = some (some e) → ownd G.M j e = true → (σ.set i (some v))[j]? = σ[j]? ∧ r[j]? = some (some e) := fun j e h o => by
    by_cases hj : i = j
    · subst hj
      by_cases hl : i < r.length
      · rw [List.getElem?_set_self hl] at h; cases h
        rw [hd] at o; cases o
      · rw [List.getElem?_eq_none (by rw [List.length_set]; omega)] at h; cases h
    · rw [List.getElem?_set_ne hj] at h
      exact ⟨List.getElem?_set_ne hj, h⟩
  refine ⟨⟨rs.rel.fh, rs.rel.om, by rw [List.length_set, List.length_set]; exact rs.rel.len, fun j e h o => ?_, fun j e h o => ?_, fun j k e f p hjk h1 h2 o1 o2 h3 => ?_⟩, rs.ent, fun j e p h o hp => ?_⟩
  · by_cases hj : i = j
    · subst hj
      by_cases hl : i < r.length
      · rw [List.getElem?_set_self hl] at h; cases h
        exact ⟨v, by rw [List.getElem?_set_self (by rw [rs.rel.len]; exact hl)], rt⟩
      · rw [List.getElem?_eq_none (by rw [List.length_set]; omega)] at h; cases h
    · rw [List.getElem?_set_ne hj] at h ⊢
      exact rs.rel.fro j e h o
  · obtain ⟨e1, e2⟩ := old j e h o
    rw [e1]; exact rs.rel.own j e e2 o
  · obtain ⟨e1, e2⟩ := old j e h1 o1
    obtain ⟨f1, f2⟩ := old k f h2 o2
    rw [e1] at h3; rw [f1]
    exact rs.rel.dis j k e f p hjk e2 f2 o1 o2 h3
  · obtain ⟨e1, e2⟩ := old j e h o
    rw [e1] at hp
    exact rs.new j e p e2 o hp
theorem psd_set {i : Nat} {x : Str} {p2 : Pos} (hN : X.N.Nodup) (hi : X.N[i]? = some x) (hx : Loc X.env.scope x) (he : PE X e (tD G de)) (hs : swapsWith e (some (.Name x p2)) pos.line X.env = pure false) (hf : X.fn x = true ∨ X.env.scope.names.lookup x = some .local) (hM : G.M.contains i = false) :
    PS X (.Assign [.Name x p2] e pos) (tS G (sAsg i de)) :=
  psI (ps_set hN hi hx he hs hf) fun Dd σ H ⟨A, F, r, w, x, w', rs, e, post⟩ => by
    unfold sAsg at e
    cases h1 : de G.c r w with
    | none => rw [h1] at e; cases e
    | some pr =>
      obtain ⟨x1, w1⟩ := pr
      rw [h1] at e
      refine tD_of rs h1 (fun d hd v A1 F1 H1 s1 rs1 rt => ?_) (fun y hy cls dd A' F' H' rs' xr => ?_)
      · subst hd; cases e
        exact post _ A1 F1 H1 (rs1.set rt (by unfold ownd; rw [hM]; rfl)) s1.ff
      · subst hy; cases e
        exact post cls dd σ A' F' H' rs' xr
theorem psd_setN {i : Nat} {x : Str} {p2 : Pos} (hN : X.N.Nodup) (hi : X.N[i]? = some x) (hx : Loc X.env.scope x) (he : PE X e (tD G de)) (hs : swapsWith e (some (.Name x p2)) pos.line X.env = pure false) (hf : X.fn x = true ∨ X.env.scope.names.lookup x = some .local) :
    PS X (.Assign [.Name x p2] e pos) (tS G (sAsgN i de)) :=
  psI (ps_set hN hi hx he hs hf) fun Dd σ H ⟨A, F, r, w, x, w', rs, e, post⟩ => by
    unfold sAsgN at e
    cases h1 : de G.c r w with
    | none => rw [h1] at e; cases e
    | some pr =>
      obtain ⟨x1, w1⟩ := pr
      rw [h1] at e
      refine tD_of rs h1 (fun d hd v A1 F1 H1 s1 rs1 rt => ?_) (fun y hy cls dd A' F' H' rs' xr => ?_)
      · subst hd
        simp only at e
        split at e
        · cases e
        · rename_i hl; cases e
          exact post _ A1 F1 H1 (rs1.set rt (by unfold ownd; rw [Bool.eq_false_iff.mpr hl, Bool.and_false])) s1.ff
      · subst hy; cases e
        exact post cls dd σ A' F' H' rs' xr
/-- a new list into the slot of one that is changed in place -/
theorem RelS.setF {A A' : List Addr} {F F' H H' : Hp} {σ : St} {r : Env} {w w' : Om} {i : Nat} {v : V} {d : D} (rs0 : RelS G A F H σ r w) (s : Step A F H A' F' H') (rs : RelS G A' F' H' σ r w') (fr : Frs H F' H' v d) (hM : G.M.contains i = true) : RelS G A' F' H' (σ.set i (some v)) (r.set i (some d)) w' := by
  obtain ⟨p, vs, ds, rfl, rfl, h1, h2, h3, rp⟩ := fr
  have ow : Ow F' H' (.ref p) (.list ds) := ⟨p, vs, ds, rfl, rfl, h2, h3, rp⟩
  have old : ∀ j e, j ≠ i → (r.set i (some (.list ds)))[j]? = some (some e) → (σ.set i (some (.ref p)))[j]? = σ[j]? ∧ r[j]? = some (some e) := fun j e hj h => by
    rw [List.getElem?_set_ne (Ne.symm hj)] at h
    exact ⟨List.getElem?_set_ne (Ne.symm hj), h⟩
  have self : ∀ e, (r.set i (some (.list ds)))[i]? = some (some e) → i < r.length ∧ e = .list ds := fun e h => by
    by_cases hl : i < r.length
    · rw [List.getElem?_set_self hl] at h; cases h; exact ⟨hl, rfl⟩
    · rw [List.getElem?_eq_none (by rw [List.length_set]; omega)] at h; cases h
  have apart : ∀ j e, r[j]? = some (some e) → ownd G.M j e = true → σ[j]? ≠ some (some (.ref p)) := fun j e h o z => by
    obtain ⟨v, e1, q, us, es, e2, _, hq, _⟩ := rs0.rel.own j e h o
    rw [z] at e1; cases e1; cases e2
    rw [h1] at hq; cases hq
  refine ⟨⟨rs.rel.fh, rs.rel.om, by rw [List.length_set, List.length_set]; exact rs.rel.len, fun j e h o => ?_, fun j e h o => ?_, fun j k e f q hjk g1 g2 o1 o2 g3 => ?_⟩, rs.ent, fun j e q h o hp => ?_⟩
  · by_cases hj : j = i
    · subst hj
      obtain ⟨_, rfl⟩ := self e h
      unfold ownd at o; rw [hM] at o; cases o
    · obtain ⟨e1, e2⟩ := old j e hj h
      rw [e1]; exact rs.rel.fro j e e2 o
  · by_cases hj : j = i
    · subst hj
      obtain ⟨hl, rfl⟩ := self e h
      exact ⟨_, by rw [List.getElem?_set_self (by rw [rs.rel.len]; exact hl)], ow⟩
    · obtain ⟨e1, e2⟩ := old j e hj h
      rw [e1]; exact rs.rel.own j e e2 o
  · by_cases hj : j = i
    · have hk : k ≠ i := fun z => hjk (hj.trans z.symm)
      obtain ⟨f1, f2⟩ := old k f hk g2
      subst hj
      obtain ⟨hl, rfl⟩ := self e g1
      rw [List.getElem?_set_self (by rw [rs.rel.len]; exact hl)] at g3
      cases g3
      rw [f1]
      exact apart k f f2 o2
    · obtain ⟨e1, e2⟩ := old j e hj g1
      rw [e1] at g3
      by_cases hk : k = i
      · subst hk
        obtain ⟨hl, rfl⟩ := self f g2
        rw [List.getElem?_set_self (by rw [rs.rel.len]; exact hl)]
        intro z
        cases z
        exact apart j e e2 o1 g3
      · obtain ⟨f1, f2⟩ := old k f hk g2
        rw [f1]
        exact rs.rel.dis j k e f q hjk e2 f2 o1 o2 g3
  · by_cases hj : j = i
    · subst hj
      obtain ⟨hl, rfl⟩ := self e h
      rw [List.getElem?_set_self (by rw [rs.rel.len]; exact hl)] at hp
      cases hp
      exact rs0.ent.fresh h1
    · obtain ⟨e1, e2⟩ := old j e hj h
      rw [e1] at hp
      exact rs.new j e q e2 o hp
theorem tF_of {A : List Addr} {F H : Hp} {σ : St} {r : Env} {w w1 : Om} {x : R} {Q : VK} (rs : RelS G A F H σ r w) (he : de G.c r w = some (x, w1))
    (hv : ∀ d, x = .val d → ∀ v A' F' H', Step A F H A' F' H' → RelS G A' F' H' σ r w1 → Frs H F' H' v d → Q v H')
    (hx : ∀ y, x = .exc y → ∀ cls dd A' F' H', RelS G A' F' H' σ r w1 → XRep G.ec F' H' cls dd y → G.W cls dd σ H') : tF G de σ H Q := by
  refine ⟨A, F, r, w, x, w1, rs.rel, he, ?_⟩
  cases x with
  | val d => exact fun v A' F' H' s o ro => hv d rfl v A' F' H' s (rs.step s o) ro
  | exc y => exact fun cls dd A' F' H' s o q => hx y rfl cls dd A' F' H' (rs.step s o) q
/-- the store of a new list, whatever the statement's form -/
theorem asgF {i : Nat} (hM : G.M.contains i = true) {Dd : Ends} {σ : St} {H : Hp} (h : tS G (sAsg i de) Dd σ H) : tF G de σ H fun v H1 => Dd.nx (σ.set i (some v)) H1 := by
  obtain ⟨A, F, r, w, x, w', rs, e, post⟩ := h
  unfold sAsg at e
  cases h1 : de G.c r w with
  | none => rw [h1] at e; cases e
  | some pr =>
    obtain ⟨x1, w1⟩ := pr
    rw [h1] at e
    refine tF_of rs h1 (fun d hd v A1 F1 H1 s1 rs1 fr => ?_) (fun y hy cls dd A' F' H' rs' xr => ?_)
    · subst hd; cases e
      exact post _ A1 F1 H1 (rs.setF s1 rs1 fr hM) s1.ff
    · subst hy; cases e
      exact post cls dd σ A' F' H' rs' xr
theorem asgD {i : Nat} (hM : G.M.contains i = false) {Dd : Ends} {σ : St} {H : Hp} (h : tS G (sAsg i de) Dd σ H) : tD G de σ H fun v H1 => Dd.nx (σ.set i (some v)) H1 := by
  obtain ⟨A, F, r, w, x, w', rs, e, post⟩ := h
  unfold sAsg at e
  cases h1 : de G.c r w with
  | none => rw [h1] at e; cases e
  | some pr =>
    obtain ⟨x1, w1⟩ := pr
    rw [h1] at e
    refine tD_of rs h1 (fun d hd v A1 F1 H1 s1 rs1 rt => ?_) (fun y hy cls dd A' F' H' rs' xr => ?_)
    · subst hd; cases e
      exact post _ A1 F1 H1 (rs1.set rt (by unfold ownd; rw [hM]; rfl)) s1.ff
    · subst hy; cases e
      exact post cls dd σ A' F' H' rs' xr
theorem psd_setF {i : Nat} {x : Str} {p2 : Pos} (hN : X.N.Nodup) (hi : X.N[i]? = some x) (hx : Loc X.env.scope x) (he : PE X e (tF G de)) (hs : swapsWith e (some (.Name x p2)) pos.line X.env = pure false) (hf : X.fn x = true ∨ X.env.scope.names.lookup x = some .local) (hM : G.M.contains i = true) :
    PS X (.Assign [.Name x p2] e pos) (tS G (sAsg i de)) := psI (ps_set hN hi hx he hs hf) fun Dd σ H h => asgF hM h
end
end Rx

set_option Elab.async false
set_option linter.all false
set_option maxRecDepth 100000
set_option maxHeartbeats 1000000
set_option autoImplicit false
namespace Rx
open PySem L2
section
variable {X : Cx} {G : Cg} {a b c e tg iter elt : Expr} {es : List Expr} {st : Stmt} {rest sa sb body : List Stmt} {da db dc de : Ex} {des : Exs} {dsa dsb dbd : Sx} {pos : Pos}
/-! ### a list changed in place -/
/-- the slot's list is written: vs to vs', ds to ds' -/
theorem RelS.write {A : List Addr} {F H : Hp} {σ : St} {r : Env} {w : Om} {i : Nat} {p : Addr} {vs vs' : List V} {ds ds' : List D} (rs : RelS G A F H σ r w) (hr : r[i]? = some (some (.list ds))) (hM : G.M.contains i = true) (hσ : σ[i]? = some (some (.ref p))) (hp : H p = some (.lst vs)) (fp : F p = none) (rp : RpAll F vs' ds') :
    RelS G A F (upd H p (.lst vs')) σ (r.set i (some (.list ds'))) w := by
  have oi : ∀ ds, ownd G.M i (.list ds) = true := fun ds => by unfold ownd; rw [hM]; rfl
  have hl : i < r.length := (List.getElem?_eq_some_iff.mp hr).1
  have n0 : G.H0 p = none := rs.new i _ p hr (oi _) hσ
  have old : ∀ j e, j ≠ i → (r.set i (some (.list ds')))[j]? = some (some e) → r[j]? = some (some e) := fun j e hj h => by
    rw [List.getElem?_set_ne (Ne.symm hj)] at h; exact h
  have self : ∀ e, (r.set i (some (.list ds')))[i]? = some (some e) → e = .list ds' := fun e h => by
    rw [List.getElem?_set_self hl] at h; cases h; rfl
  refine ⟨⟨fun b x e => ?_, rs.rel.om.write hp, by rw [List.length_set]; exact rs.rel.len, fun j e h o => ?_, fun j e h o => ?_, fun j k e f q hjk g1 g2 o1 o2 g3 => ?_⟩, rs.ent.write n0 fp, fun j e q h o hq => ?_⟩
  · rw [upd_ne (ne_of_none e fp)]; exact rs.rel.fh b x e
  · by_cases hj : j = i
    · subst hj
      rw [self e h, oi] at o; cases o
    · exact rs.rel.fro j e (old j e hj h) o
  · by_cases hj : j = i
    · subst hj
      have := self e h
      subst this
      exact ⟨_, hσ, p, vs', ds', rfl, rfl, upd_same, fp, rp⟩
    · obtain ⟨v, e1, q, us, es, e2, e3, hq, fq, rq⟩ := rs.rel.own j e (old j e hj h) o
      subst e2
      have : q ≠ p := fun z => by
        subst z
        exact rs.rel.dis j i e _ q hj (old j e hj h) hr o (oi _) e1 hσ
      exact ⟨_, e1, q, us, es, rfl, e3, by rw [upd_ne this]; exact hq, fq, rq⟩
  · by_cases hj : j = i
    · subst hj
      exact rs.rel.dis j k _ f q hjk hr (old k f (Ne.symm hjk) g2) (oi _) o2 g3
    · by_cases hk : k = i
      · subst hk
        exact rs.rel.dis j k e _ q hjk (old j e hj g1) hr o1 (oi _) g3
      · exact rs.rel.dis j k e f q hjk (old j e hj g1) (old k f hk g2) o1 o2 g3
  · by_cases hj : j = i
    · subst hj
      exact rs.new j _ q hr (oi _) hq
    · exact rs.new j e q (old j e hj h) o hq
/-- a slot is forgotten -/
theorem RelS.forget {A : List Addr} {F H : Hp} {σ : St} {r : Env} {w : Om} (rs : RelS G A F H σ r w) (j : Nat) : RelS G A F H σ (r.set j none) w := by
  have old : ∀ k e, (r.set j none)[k]? = some (some e) → r[k]? = some (some e) := fun k e h => by
    by_cases hk : j = k
    · subst hk
      by_cases hl : j < r.length
      · rw [List.getElem?_set_self hl] at h; cases h
      · rw [List.getElem?_eq_none (by rw [List.length_set]; omega)] at h; cases h
    · rw [List.getElem?_set_ne hk] at h; exact h
  exact ⟨⟨rs.rel.fh, rs.rel.om, by rw [List.length_set]; exact rs.rel.len, fun k e h o => rs.rel.fro k e (old k e h) o, fun k e h o => rs.rel.own k e (old k e h) o, fun k l e f q hkl g1 g2 o1 o2 g3 => rs.rel.dis k l e f q hkl (old k e g1) (old l f g2) o1 o2 g3⟩, rs.ent, fun k e q h o hq => rs.new k e q (old k e h) o hq⟩
theorem own_at {A : List Addr} {F H : Hp} {σ : St} {r : Env} {w : Om} {i : Nat} {ds : List D} (rs : RelS G A F H σ r w) (hr : r[i]? = some (some (.list ds))) (hM : G.M.contains i = true) : ∃ p vs, σ[i]? = some (some (.ref p)) ∧ H p = some (.lst vs) ∧ F p = none ∧ RpAll F vs ds := by
  obtain ⟨v, e1, p, vs, ds', e2, e3, hp, fp, rp⟩ := rs.rel.own i _ hr (by unfold ownd; rw [hM]; rfl)
  cases e3; subst e2
  exact ⟨p, vs, e1, hp, fp, rp⟩
section
variable {i : Nat} {x : Str} {p2 apos : Pos} (hN : X.N[i]? = some x) (hv : Vis X.env.scope x) (hd : (x == ("__debug__" : Str)) = false) (hcd : (x == ("__classdict__" : Str)) = false) (hM : G.M.contains i = true)
include hN hv hd hcd hM
theorem psd_append (he : PE X e (tD G de)) (hst : starEach [e] X.env = (false, eval e X.env) :: starEach [] X.env) {cpos : Pos} (hline : (apos.endLine == cpos.line) = true) (hs : swapsWith (.Call (.Attribute (.Name x p2) "append" apos) [e] [] cpos) none pos.line X.env = pure false)
    (hfew : ((backTo cpos (starEach [e] X.env)).all (fun x => !x.1) && (backToKw cpos (keywordEach [] X.env)).all (fun x => x.1.isSome) && decide ([e].length + ([] : List Keyword).length + (if ([] : List Keyword).isEmpty then 0 else 1) < 30)) = true) :
    PS X (.Expr (.Call (.Attribute (.Name x p2) "append" apos) [e] [] cpos) pos) (tS G (sAppend i de)) :=
  psI (ps_expr (pe_bm PySem.F.plainAttrs_list PySem.F.slot_list_append PySem.F.type_list_append mt_append (pe_var hN hv hd hcd) (pa_cons he pa_nil hst) rfl hfew hline hst rfl) hs) fun Dd σ H ⟨A, F, r, w, x, w', rs, e, post⟩ => by
    unfold sAppend at e
    split at e
    · rename_i ds hr
      obtain ⟨p, vs, hσ, hp, fp, rp⟩ := own_at rs hr hM
      refine ⟨.ref p, hσ, .inl ⟨rfl, _, .inl (.inl hp)⟩, ?_⟩
      cases h1 : de G.c r w with
      | none => rw [h1] at e; cases e
      | some pr =>
        obtain ⟨x1, w1⟩ := pr
        rw [h1] at e
        refine tD_of rs h1 (fun d hd v A1 F1 H1 s1 rs1 rt => ?_) (fun y hy cls dd A' F' H' rs' xr => ?_)
        · subst hd
          simp only at e
          split at e
          · rename_i hz; cases e
            simp only [Bool.and_eq_true, decide_eq_true_eq] at hz
            have hp1 : H1 p = some (.lst vs) := s1.hh _ _ hp rfl
            have fp1 : F1 p = none := by rw [s1.old _ _ hp]; exact fp
            refine ⟨p, vs, v, rfl, rfl, hp1, by rw [rp.length]; exact zlt hz.2, ?_⟩
            exact post σ A1 F1 _ (rs1.write hr hM hσ hp1 fp1 ((rp.mono s1.ff).append (.cons (rt.plain hz.1) .nil))) s1.ff
          · cases e
        · subst hy; cases e
          exact post cls dd σ A' F' H' rs' xr
    · cases e
theorem psd_appendMv {j : Nat} {y : Str} {p3 : Pos} (hNj : X.N[j]? = some y) (hvj : Vis X.env.scope y) (hdj : (y == ("__debug__" : Str)) = false) (hcdj : (y == ("__classdict__" : Str)) = false) (hMj : G.M.contains j = true) {cpos : Pos} (hline : (apos.endLine == cpos.line) = true) :
    PS X (.Expr (.Call (.Attribute (.Name x p2) "append" apos) [.Name y p3] [] cpos) pos) (tS G (sAppendMv i j)) :=
  psI (ps_expr (pe_bm PySem.F.plainAttrs_list PySem.F.slot_list_append PySem.F.type_list_append mt_append (pe_var hN hv hd hcd) (pa_cons (pe_var hNj hvj hdj hcdj) pa_nil rfl) rfl rfl hline rfl rfl) rfl) fun Dd σ H ⟨A, F, r, w, x, w', rs, e, post⟩ => by
    unfold sAppendMv at e
    split at e
    · rename_i ds d hr hrj
      split at e
      · rename_i hz; cases e
        simp only [Bool.and_eq_true, decide_eq_true_eq] at hz
        obtain ⟨⟨hl, hlen⟩, hij⟩ := hz
        obtain ⟨p, vs, hσ, hp, fp, rp⟩ := own_at rs hr hM
        cases d <;> first | (cases hl; done) | skip
        rename_i es
        obtain ⟨q, us, hσj, hq, fq, rq⟩ := own_at rs hrj hMj
        have hpq : p ≠ q := fun z => by
          subst z
          exact rs.rel.dis i j _ _ p hij hr hrj (by unfold ownd; rw [hM]; rfl) (by unfold ownd; rw [hMj]; rfl) hσ hσj
        refine ⟨.ref p, hσ, .inl ⟨rfl, _, .inl (.inl hp)⟩, .ref q, hσj, p, vs, .ref q, rfl, rfl, hp, by rw [rp.length]; exact zlt hlen, ?_⟩
        -- the moved list stands for good
        have n0 : G.H0 q = none := rs.new j _ q hrj (by unfold ownd; rw [hMj]; rfl) hσj
        have sf : Same F (upd F q (.lst us)) := same_new fq
        have rs1 : RelS G A (upd F q (.lst us)) H σ (r.set j none) w := by
          have rf := rs.forget j
          have ent : Step G.A0 G.F0 G.H0 A (upd F q (.lst us)) H := rs.ent.freeze n0 hq fq
          have old : ∀ k e, (r.set j none)[k]? = some (some e) → k ≠ j ∧ r[k]? = some (some e) := fun k e h => by
            by_cases hk : j = k
            · subst hk
              by_cases hl : j < r.length
              · rw [List.getElem?_set_self hl] at h; cases h
              · rw [List.getElem?_eq_none (by rw [List.length_set]; omega)] at h; cases h
            · rw [List.getElem?_set_ne hk] at h; exact ⟨Ne.symm hk, h⟩
          refine ⟨⟨ent.fh, rs.rel.om.freeze hq fq, rf.rel.len, fun k e h o => ?_, fun k e h o => ?_, rf.rel.dis⟩, ent, rf.new⟩
          · obtain ⟨v, e1, e2⟩ := rf.rel.fro k e h o
            refine ⟨v, e1, ?_⟩
            rcases e2 with e2 | ⟨i, a, z1, z2, z3⟩ | ⟨a, ns, z1, z2, z3⟩ | ⟨a, ns, z1, z2, o, z3, z4⟩
            · exact .inl (e2.mono sf)
            · exact .inr (.inl ⟨i, a, z1, z2, z3⟩)
            · exact .inr (.inr (.inl ⟨a, ns, z1, z2, sql_mono sf z3⟩))
            · exact .inr (.inr (.inr ⟨a, ns, z1, z2, o, sf _ _ z3, z4⟩))
          · obtain ⟨v, e1, t, ts, es', e2, e3, ht, ft, rt⟩ := rf.rel.own k e h o
            obtain ⟨hk, hr'⟩ := old k e h
            subst e2
            have : t ≠ q := fun z => by
              subst z
              exact rs.rel.dis k j e _ t hk hr' hrj o (by unfold ownd; rw [hMj]; rfl) e1 hσj
            exact ⟨_, e1, t, ts, es', rfl, e3, ht, by rw [upd_ne this]; exact ft, rt.mono sf⟩
        have hr1 : (r.set j none)[i]? = some (some (.list ds)) := by rw [List.getElem?_set_ne (Ne.symm hij)]; exact hr
        have rs2 := rs1.write (vs' := vs ++ [.ref q]) (ds' := ds ++ [.list es]) hr1 hM hσ hp (by rw [upd_ne hpq]; exact fp) ((rp.mono sf).append (.cons (.lst upd_same (rq.mono sf)) .nil))
        rw [List.set_comm _ _ (Ne.symm hij)] at rs2
        exact post σ A _ _ rs2 sf
      · cases e
    · cases e
theorem psd_extend (he : PE X e (tO G de)) (hst : starEach [e] X.env = (false, eval e X.env) :: starEach [] X.env) {cpos : Pos} (hline : (apos.endLine == cpos.line) = true) (hs : swapsWith (.Call (.Attribute (.Name x p2) "extend" apos) [e] [] cpos) none pos.line X.env = pure false)
    (hfew : ((backTo cpos (starEach [e] X.env)).all (fun x => !x.1) && (backToKw cpos (keywordEach [] X.env)).all (fun x => x.1.isSome) && decide ([e].length + ([] : List Keyword).length + (if ([] : List Keyword).isEmpty then 0 else 1) < 30)) = true) :
    PS X (.Expr (.Call (.Attribute (.Name x p2) "extend" apos) [e] [] cpos) pos) (tS G (sExtend i de)) :=
  psI (ps_expr (pe_bm PySem.F.plainAttrs_list PySem.F.slot_list_extend PySem.F.type_list_extend mt_extend (pe_var hN hv hd hcd) (pa_cons he pa_nil hst) rfl hfew hline hst rfl) hs) fun Dd σ H ⟨A, F, r, w, x, w', rs, e, post⟩ => by
    unfold sExtend at e
    split at e
    · rename_i ds hr
      obtain ⟨p, vs, hσ, hp, fp, rp⟩ := own_at rs hr hM
      refine ⟨.ref p, hσ, .inl ⟨rfl, _, .inl (.inl hp)⟩, ?_⟩
      cases h1 : de G.c r w with
      | none => rw [h1] at e; cases e
      | some pr =>
        obtain ⟨x1, w1⟩ := pr
        rw [h1] at e
        refine tO_of rs h1 (fun d hd v A1 F1 H1 s1 rs1 ro => ?_) (fun y hy cls dd A' F' H' rs' xr => ?_)
        · subst hd
          cases d <;> first | (cases e; done) | skip
          simp only at e
          split at e
          · rename_i zs hz; cases e
            obtain ⟨q, us, rfl, hq, rq⟩ := ro.lst rs1.rel.fh
            have hp1 : H1 p = some (.lst vs) := s1.hh _ _ hp rfl
            have fp1 : F1 p = none := by rw [s1.old _ _ hp]; exact fp
            refine ⟨p, q, vs, us, rfl, rfl, hp1, hq, by rw [rp.length, rq.length]; exact zl hz, ?_⟩
            exact post σ A1 F1 _ (rs1.write hr hM hσ hp1 fp1 ((rp.mono s1.ff).append rq)) s1.ff
          · cases e
        · subst hy; cases e
          exact post cls dd σ A' F' H' rs' xr
    · cases e
end
theorem psd_setIx {i : Nat} {x : Str} {p2 p3 : Pos} {k : Expr} {dk : Ex} (hN : X.N[i]? = some x) (hv : Vis X.env.scope x) (hd : (x == ("__debug__" : Str)) = false) (hcd : (x == ("__classdict__" : Str)) = false) (hM : G.M.contains i = true) (he : PE X e (tD G de)) (hk : PE X k (tO G dk))
    (ha : ∀ v, assign (.Subscript (.Name x p2) k p3) X.env v = (do
      let ov ← holding [v] (eval (.Name x p2) X.env)
      let iv ← holding [v, ov] (eval k X.env)
      standAt p3
      holding [v, ov, iv] (setItem ov iv v)
      release [v, ov, iv] []))
    (hs : swapsWithSole [.Subscript (.Name x p2) k p3] e pos.line X.env = pure false) (hw : swappedStores [.Subscript (.Name x p2) k p3] e X.env = pure none) (h1 : (assignEach [.Subscript (.Name x p2) k p3] X.env).map (·.2) = [assign (.Subscript (.Name x p2) k p3) X.env]) :
    PS X (.Assign [.Subscript (.Name x p2) k p3] e pos) (tS G (sSetIx i dk de)) :=
  psI (ps_asg he (pg_sub (pe_var hN hv hd hcd) hk set_list ha) hs hw h1) fun Dd σ H ⟨A, F, r, w, x, w', rs, e, post⟩ => by
    unfold sSetIx at e
    cases h1 : de G.c r w with
    | none => rw [h1] at e; cases e
    | some pr =>
      obtain ⟨x1, w1⟩ := pr
      rw [h1] at e
      refine tD_of rs h1 (fun d hd v A1 F1 H1 s1 rs1 rt => ?_) (fun y hy cls dd A' F' H' rs' xr => ?_)
      · subst hd
        simp only at e
        split at e
        · rename_i ds hr
          obtain ⟨p, vs, hσ, hp, fp, rp⟩ := own_at rs1 hr hM
          refine ⟨.ref p, hσ, ?_⟩
          cases h2 : dk G.c r w1 with
          | none => rw [h2] at e; cases e
          | some pr =>
            obtain ⟨x2, w2⟩ := pr
            rw [h2] at e
            refine tO_of rs1 h2 (fun d2 hd2 v2 A2 F2 H2 s2 rs2 ro => ?_) (fun y hy cls dd A' F' H' rs' xr => ?_)
            · subst hd2
              cases d2 <;> first | (cases e; done) | skip
              rename_i n
              simp only at e
              split at e
              · rename_i hpl
                rw [Option.map_eq_some_iff] at e
                obtain ⟨j, hj, e⟩ := e
                cases e
                have hp2 : H2 p = some (.lst vs) := s2.hh _ _ hp rfl
                have fp2 : F2 p = none := by rw [s2.old _ _ hp]; exact fp
                refine ⟨p, vs, n, j, rfl, ro.int, hp2, by rw [rp.length]; exact hj, ?_⟩
                exact post σ A2 F2 _ (rs2.write hr hM hσ hp2 fp2 ((rp.mono s2.ff).set ((rt.step s2).plain hpl) j)) (s1.ff.trans s2.ff)
              · cases e
            · subst hy; cases e
              exact post cls dd σ A' F' H' rs' xr
        · cases e
      · subst hy; cases e
        exact post cls dd σ A' F' H' rs' xr
end
end Rx

set_option Elab.async false
set_option linter.all false
set_option maxRecDepth 100000
set_option maxHeartbeats 1000000
set_option autoImplicit false
namespace Rx
open PySem L2
section
variable {X : Cx} {G : Cg} {a b c e tg iter elt : Expr} {es : List Expr} {st : Stmt} {rest sa sb body : List Stmt} {da db dc de : Ex} {des src : Exs} {dsa dsb dbd : Sx} {pos : Pos}
theorem tDs_of {A : List Addr} {F H : Hp} {σ : St} {r : Env} {w w1 : Om} {x : RL} {Q : List V → Hp → Prop} (rs : RelS G A F H σ r w) (he : des G.c r w = some (x, w1))
    (hv : ∀ d, x = .vals d → ∀ v A' F' H', Step A F H A' F' H' → RelS G A' F' H' σ r w1 → RtAll G.K A' F' v d → Q v H')
    (hx : ∀ y, x = .exc y → ∀ cls dd A' F' H', RelS G A' F' H' σ r w1 → XRep G.ec F' H' cls dd y → G.W cls dd σ H') : tDs G des σ H Q := by
  refine ⟨A, F, r, w, x, w1, rs.rel, he, ?_⟩
  cases x with
  | vals d => exact fun v A' F' H' s o ro => hv d rfl v A' F' H' s (rs.step s o) ro
  | exc y => exact fun cls dd A' F' H' s o q => hx y rfl cls dd A' F' H' (rs.step s o) q
theorem tI_of {frz : Bool} {A : List Addr} {F H : Hp} {σ : St} {r : Env} {w w1 : Om} {x : RL} {R : It → Hp → Prop} (rs : RelS G A F H σ r w) (he : src G.c r w = some (x, w1))
    (hv : ∀ d, x = .vals d → ∀ J A' F' H', Step A F H A' F' H' → RelS G A' F' H' σ r w1 → (if frz = true then ItF J F' d else ItS J A' F' H' d) → R J H')
    (hx : ∀ y, x = .exc y → ∀ cls dd A' F' H', RelS G A' F' H' σ r w1 → XRep G.ec F' H' cls dd y → G.W cls dd σ H') : tI G frz src σ H R := by
  refine ⟨A, F, r, w, x, w1, rs.rel, he, ?_⟩
  cases x with
  | vals d => exact fun v A' F' H' s o ro => hv d rfl v A' F' H' s (rs.step s o) ro
  | exc y => exact fun cls dd A' F' H' s o q => hx y rfl cls dd A' F' H' (rs.step s o) q
/-! ### a, b = x, y -/
theorem psd_par {i j : Nat} {x y : Str} {px py pt : Pos} {kt k2 : Nat} {pt2 : Pos} (hc : X.calm = true) (hN : X.N.Nodup) (hi : X.N[i]? = some x) (hj : X.N[j]? = some y) (hij : i ≠ j)
    (hx : X.env.scope.names.lookup x = some .local) (hy : X.env.scope.names.lookup y = some .local) (ha : PA X [a, b] (tDs G des))
    (hw : swappedStores [.Tuple [.Name x px, .Name y py] kt pt] (.Tuple [a, b] k2 pt2) X.env = pure (some [x, y])) (hMi : G.M.contains i = false) (hMj : G.M.contains j = false) :
    PS X (.Assign [.Tuple [.Name x px, .Name y py] kt pt] (.Tuple [a, b] k2 pt2) pos) (tS G (sPar [i, j] des)) :=
  psI (ps_par hc hN hi hj hij hx hy ha hw rfl) fun Dd σ H ⟨A, F, r, w, x, w', rs, e, post⟩ => by
    unfold sPar at e
    cases h1 : des G.c r w with
    | none => rw [h1] at e; cases e
    | some pr =>
      obtain ⟨x1, w1⟩ := pr
      rw [h1] at e
      refine tDs_of rs h1 (fun ds hd vs A1 F1 H1 s1 rs1 rt => ?_) (fun y hy cls dd A' F' H' rs' xr => ?_)
      · subst hd
        simp only at e
        rw [Option.map_eq_some_iff] at e
        obtain ⟨r1, hr, e⟩ := e
        cases e
        cases rt with
        | nil => simp [setAll] at hr
        | cons t1 t =>
          cases t with
          | nil => simp [setAll] at hr
          | cons t2 t =>
            cases t with
            | nil =>
              simp only [setAll] at hr
              cases hr
              refine ⟨_, _, rfl, post _ A1 F1 H1 ((rs1.set t1 (by unfold ownd; rw [hMi]; rfl)).set t2 (by unfold ownd; rw [hMj]; rfl)) s1.ff⟩
            | cons t3 t => simp [setAll] at hr
      · subst hy; cases e
        exact post cls dd σ A' F' H' rs' xr
theorem psd_par3 {i j l : Nat} {x y z : Str} {px py pz pt : Pos} {kt k2 : Nat} {pt2 : Pos} (hc : X.calm = true) (hN : X.N.Nodup) (hi : X.N[i]? = some x) (hj : X.N[j]? = some y) (hl : X.N[l]? = some z) (hij : i ≠ j) (hil : i ≠ l) (hjl : j ≠ l)
    (hx : X.env.scope.names.lookup x = some .local) (hy : X.env.scope.names.lookup y = some .local) (hz : X.env.scope.names.lookup z = some .local) (ha : PA X [a, b, c] (tDs G des))
    (hw : swappedStores [.Tuple [.Name x px, .Name y py, .Name z pz] kt pt] (.Tuple [a, b, c] k2 pt2) X.env = pure (some [x, y, z])) (hMi : G.M.contains i = false) (hMj : G.M.contains j = false) (hMl : G.M.contains l = false) :
    PS X (.Assign [.Tuple [.Name x px, .Name y py, .Name z pz] kt pt] (.Tuple [a, b, c] k2 pt2) pos) (tS G (sPar [i, j, l] des)) :=
  psI (ps_par3 hc hN hi hj hl hij hil hjl hx hy hz ha hw rfl) fun Dd σ H ⟨A, F, r, w, x, w', rs, e, post⟩ => by
    unfold sPar at e
    cases h1 : des G.c r w with
    | none => rw [h1] at e; cases e
    | some pr =>
      obtain ⟨x1, w1⟩ := pr
      rw [h1] at e
      refine tDs_of rs h1 (fun ds hd vs A1 F1 H1 s1 rs1 rt => ?_) (fun y hy cls dd A' F' H' rs' xr => ?_)
      · subst hd
        simp only at e
        rw [Option.map_eq_some_iff] at e
        obtain ⟨r1, hr, e⟩ := e
        cases e
        cases rt with
        | nil => simp [setAll] at hr
        | cons t1 t =>
          cases t with
          | nil => simp [setAll] at hr
          | cons t2 t =>
            cases t with
            | nil => simp [setAll] at hr
            | cons t3 t =>
              cases t with
              | nil =>
                simp only [setAll] at hr
                cases hr
                refine ⟨_, _, _, rfl, post _ A1 F1 H1 (((rs1.set t1 (by unfold ownd; rw [hMi]; rfl)).set t2 (by unfold ownd; rw [hMj]; rfl)).set t3 (by unfold ownd; rw [hMl]; rfl)) s1.ff⟩
              | cons t3 t => simp [setAll] at hr
      · subst hy; cases e
        exact post cls dd σ A' F' H' rs' xr
/-! ### (a, b) = e -/
theorem RelS.up {A : List Addr} {F H : Hp} {σ σ' : St} {r r' : Env} {w : Om} {is : List Nat} (rs : RelS G A F H σ r w) (u : Up F is σ r σ' r') (hM : ∀ i ∈ is, G.M.contains i = false) : RelS G A F H σ' r' w := by
  refine ⟨u.rel rs.rel hM, rs.ent, fun i d p h o hp => ?_⟩
  rcases u.at_ i with ⟨h1, h2⟩ | ⟨hi, _⟩
  · rw [h1] at hp; rw [h2] at h
    exact rs.new i d p h o hp
  · unfold ownd at o; rw [hM i hi] at o; cases o
theorem psd_asgT {ts : List Tg} (he : PE X e (tD G de)) (hg : PG X tg (tG (.tp ts))) (hM : ∀ i ∈ slotsT (.tp ts), G.M.contains i = false) (hs : swapsWithSole [tg] e pos.line X.env = pure false) (hw : swappedStores [tg] e X.env = pure none) (h1 : (assignEach [tg] X.env).map (·.2) = [assign tg X.env]) :
    PS X (.Assign [tg] e pos) (tS G (sAsgT (.tp ts) de)) :=
  psI (ps_asg he hg hs hw h1) fun Dd σ H ⟨A, F, r, w, x, w', rs, e, post⟩ => by
    unfold sAsgT at e
    cases h1 : de G.c r w with
    | none => rw [h1] at e; cases e
    | some pr =>
      obtain ⟨x1, w1⟩ := pr
      rw [h1] at e
      refine tD_of rs h1 (fun d hd v A1 F1 H1 s1 rs1 rt => ?_) (fun y hy cls dd A' F' H' rs' xr => ?_)
      · subst hd
        simp only at e
        rw [Option.map_eq_some_iff] at e
        obtain ⟨r1, hr, e⟩ := e
        cases e
        have hp : plain d = true := by
          cases d <;> first | rfl | simp [bindT] at hr
        exact ⟨F1, d, r, r1, rt.plain hp, s1.fh, rs1.rel.len, hr, fun σ' u => post σ' A1 F1 H1 (rs1.up u hM) s1.ff⟩
      · subst hy; cases e
        exact post cls dd σ A' F' H' rs' xr
/-! ### x *= e, x //= e -/
theorem psd_aug {op : Operator} {p : Pr} {i : Nat} {x : Str} {p2 : Pos} {f : Int → Int → Int} {C : Int → Int → Prop} (hp : ∀ i j d, prim p [.int i, .int j] = some d → C i j ∧ d = .int (f i j)) (ho : OpR X (inplaceOp op) (rI C fun i j => .int (f i j)))
    (hN : X.N.Nodup) (hi : X.N[i]? = some x) (hx : Loc X.env.scope x) (he : PE X e (tO G de)) (hf : X.fn x = true ∨ X.env.scope.names.lookup x = some .local) :
    PS X (.AugAssign (.Name x p2) op e pos) (tS G (sAug i p de)) :=
  psI (ps_aug hN hi hx he ho hf) fun Dd σ H ⟨A, F, r, w, x, w', rs, e, post⟩ => by
    unfold sAug at e
    split at e
    · rename_i a hr
      obtain ⟨v, hσ, ro⟩ := rs.rel.ro hr
      refine ⟨v, hσ, ?_⟩
      cases h1 : de G.c r w with
      | none => rw [h1] at e; cases e
      | some pr =>
        obtain ⟨x1, w1⟩ := pr
        rw [h1] at e
        refine tO_of rs h1 (fun d hd u A1 F1 H1 s1 rs1 ru => ?_) (fun y hy cls dd A' F' H' rs' xr => ?_)
        · subst hd
          cases d <;> first | (cases e; done) | skip
          simp only at e
          rw [Option.map_eq_some_iff] at e
          obtain ⟨d, hd, e⟩ := e
          cases e
          obtain ⟨hC, rfl⟩ := hp _ _ _ hd
          refine ⟨_, _, ro.int, ru.int, hC, post _ A1 F1 H1 (rs1.set (.inl (.int _)) ?_) s1.ff⟩
          unfold ownd isLst; rw [Bool.and_false]
        · subst hy; cases e
          exact post cls dd σ A' F' H' rs' xr
    · cases e
theorem psd_imul {i : Nat} {x : Str} {p2 : Pos} (hN : X.N.Nodup) (hi : X.N[i]? = some x) (hx : Loc X.env.scope x) (he : PE X e (tO G de)) (hf : X.fn x = true ∨ X.env.scope.names.lookup x = some .local) : PS X (.AugAssign (.Name x p2) .Mult e pos) (tS G (sAug i .mul de)) :=
  psd_aug (f := fun i j => i * j) (C := CMul) (fun i j d h => by
    replace h : (if (small i || small j) = true then some (PyData.int (i * j)) else none) = some d := h
    split at h
    · rename_i hz; cases h
      refine ⟨?_, rfl⟩
      rw [Bool.or_eq_true] at hz
      unfold small at hz
      simp only [Bool.and_eq_true, decide_eq_true_eq] at hz
      exact hz
    · cases h) iop_mul hN hi hx he hf
theorem psd_ifdiv {i : Nat} {x : Str} {p2 : Pos} (hN : X.N.Nodup) (hi : X.N[i]? = some x) (hx : Loc X.env.scope x) (he : PE X e (tO G de)) (hf : X.fn x = true ∨ X.env.scope.names.lookup x = some .local) : PS X (.AugAssign (.Name x p2) .FloorDiv e pos) (tS G (sAug i .fdiv de)) :=
  psd_aug (f := fun i j => i / j) (C := CDiv) (fun i j d h => by
    replace h : (if 0 < j ∧ j < 1073741824 then some (PyData.int (i / j)) else none) = some d := h
    split at h
    · rename_i hz; cases h
      exact ⟨hz, rfl⟩
    · cases h) iop_fdiv hN hi hx he hf
/-! ### for -/
theorem psd_for {t : Tg} (hp : PassesOwn (model X.prog X.w) X.A X.env X.xe) (hc : X.calm = true) (hi : PI X tg iter (tI G true src)) (hg : PG X tg (tG t)) (hM : ∀ i ∈ slotsT t, G.M.contains i = false) (hb : PSs X body (tS G dbd)) (hs : ∀ x, foldedSetIterable iter X.env x = pure x) :
    PS X (.For tg iter body [] pos) (tS G (sFor src t dbd)) :=
  psI (ps_for hp hc hi hg hb hs) fun Dd σ H ⟨A, F, r, w, x, w', rs, e, post⟩ => by
    unfold sFor at e
    cases h1 : src G.c r w with
    | none => rw [h1] at e; cases e
    | some pr =>
      obtain ⟨x1, w1⟩ := pr
      rw [h1] at e
      refine tI_of rs h1 (fun xs hd J A1 F1 H1 s1 rs1 hit => ?_) (fun y hy cls dd A' F' H' rs' xr => ?_)
      · subst hd
        simp only at e
        rw [if_pos rfl] at hit
        refine ⟨fun i m σ H => m = xs.length - i ∧ i ≤ xs.length ∧ ∃ A F r w, RelS G A F H σ r w ∧ Same F1 F ∧ forGo G.c t dbd (xs.drop i) r w = some (x, w'), ⟨xs.length, by simp, Nat.zero_le _, A1, F1, r, w1, rs1, .refl _, by rw [List.drop_zero]; exact e⟩, ?_⟩
        rintro i m σ H ⟨rfl, hi, A, F, r, w, rs, sf, gc⟩
        by_cases hlt : i < xs.length
        · have hdrop : xs.drop i = xs[i] :: xs.drop (i + 1) := List.drop_eq_getElem_cons hlt
          rw [hdrop] at gc
          unfold forGo at gc
          cases hbd : bindT t xs[i] r with
          | none => rw [hbd] at gc; cases gc
          | some r1 =>
            rw [hbd] at gc
            simp only at gc
            refine .inr ⟨hit.go F H i sf rs.rel.fh hlt, fun σ' H' => i + 1 ≤ xs.length ∧ ∃ A F r w, RelS G A F H' σ' r w ∧ Same F1 F ∧ forGo G.c t dbd (xs.drop (i + 1)) r w = some (x, w'), fun σ' H' hn => ⟨xs.length - (i + 1), by omega, rfl, hn⟩, fun v H3 hy => ?_⟩
            obtain ⟨F3, d, s3, k3, ed, rv⟩ := hit.yld A F H i v H3 sf rs.rel.fh hlt hy
            have : d = xs[i] := by rw [List.getElem?_eq_getElem hlt] at ed; exact (Option.some.inj ed).symm
            subst this
            have rs3 := rs.step s3 (rs.rel.om.new s3 k3)
            refine ⟨F3, xs[i], r, r1, rv, s3.fh, rs3.rel.len, hbd, fun σ2 u2 => ?_⟩
            have rs4 := rs3.up u2 hM
            cases hbody : dbd G.c r1 w with
            | none => rw [hbody] at gc; cases gc
            | some pr =>
              obtain ⟨x2, w2⟩ := pr
              rw [hbody] at gc
              refine ⟨A, F3, r1, w, x2, w2, rs4, hbody, ?_⟩
              cases x2 with
              | next r2 => exact fun σ5 A5 F5 H5 rs5 k5 => ⟨by omega, A5, F5, r2, w2, rs5, (sf.trans s3.ff).trans k5, gc⟩
              | ret d => cases gc; exact post
              | exc y r2 => cases gc; exact post
        · have hi' : i = xs.length := by omega
          subst hi'
          rw [List.drop_length] at gc
          unfold forGo at gc
          cases gc
          exact .inl ⟨hit.stop F H _ sf rs.rel.fh (Nat.le_refl _), post σ A F H rs (s1.ff.trans sf)⟩
      · subst hy; cases e
        exact post cls dd σ A' F' H' rs' xr
/-! ### while -/
theorem psd_while {n : Nat} (hp : PassesOwn (model X.prog X.w) X.A X.env X.xe) (hc : PT X c (tT G dc)) (hb : PSs X body (tS G dbd)) : PS X (.While c body [] pos) (tS G (sWhile n dc dbd)) :=
  psI (ps_while hp hc hb) fun Dd σ H ⟨A, F, r, w, x, w', rs, e, post⟩ => by
    unfold sWhile at e
    refine ⟨fun m σ H => ∃ A F1 r w, RelS G A F1 H σ r w ∧ Same F F1 ∧ whileGo G.c dc dbd m r w = some (x, w'), ⟨n, A, F, r, w, rs, .refl _, e⟩, ?_⟩
    rintro m σ H ⟨A, F1, r, w, rs, sf, gc⟩
    cases m with
    | zero => unfold whileGo at gc; cases gc
    | succ m =>
      unfold whileGo at gc
      cases h1 : dc G.c r w with
      | none => rw [h1] at gc; cases gc
      | some pr =>
        obtain ⟨x1, w1⟩ := pr
        rw [h1] at gc
        refine tT_of rs h1 (fun d hd => ?_) (fun y hy cls dd A' F' H' rs' xr => ?_)
        · subst hd
          simp only at gc
          cases ht : truth d with
          | none => rw [ht] at gc; cases gc
          | some k =>
            rw [ht] at gc
            refine ⟨k, rfl, fun A2 F2 H2 s2 rs2 => ?_⟩
            cases k with
            | false =>
              cases gc
              exact iteF (post σ A2 F2 H2 rs2 (sf.trans s2.ff))
            | true =>
              refine iteT ⟨fun σ' H' => ∃ A F1 r w, RelS G A F1 H' σ' r w ∧ Same F F1 ∧ whileGo G.c dc dbd m r w = some (x, w'), fun σ' H' hn => ⟨m, Nat.lt_succ_self m, hn⟩, ?_⟩
              simp only at gc
              cases hbody : dbd G.c r w1 with
              | none => rw [hbody] at gc; cases gc
              | some pr =>
                obtain ⟨x2, w2⟩ := pr
                rw [hbody] at gc
                refine ⟨A2, F2, r, w1, x2, w2, rs2, hbody, ?_⟩
                cases x2 with
                | next r2 => exact fun σ5 A5 F5 H5 rs5 k5 => ⟨A5, F5, r2, w2, rs5, (sf.trans s2.ff).trans k5, gc⟩
                | ret d => cases gc; exact post
                | exc y r2 => cases gc; exact post
        · subst hy; cases gc
          exact post cls dd σ A' F' H' rs' xr
/-! ### comprehensions -/
theorem pts_cond {Xb : Cx} {Gb : Cg} {ifs : List Expr} {cond : Option Ex} (h : (ifs = [] ∧ cond = none) ∨ ∃ c t, ifs = [c] ∧ cond = some t ∧ PT Xb c (tT Gb t)) : PTs Xb ifs (tCond Gb cond) := by
  rcases h with ⟨rfl, rfl⟩ | ⟨c, t, rfl, rfl, h⟩
  · exact pts_nil
  · exact pts_one h
section
variable {ifs : List Expr} {cond : Option Ex} {scope : Scope} {t : Tg} {own : List (Str × Nat)} (hc : X.calm = true) (hN : X.N.Nodup) (hi : PI X tg iter (tI G false src)) (ok : BlkOk X.N X.env.scope scope own)
    (hg : ∀ (s : Shared) (H : Hp) (C : Addr) (cl : List (Str × Addr)) (fp : List Addr), PG (X.blk s H scope (compEnvC scope cl C X.env) fp) tg (tG t))
    (ht : ∀ (s : Shared) (H : Hp) (C : Addr) (cl : List (Str × Addr)) (fp : List Addr), PTs (X.blk s H scope (compEnvC scope cl C X.env) fp) ifs (tCond (G.blk (own.map (·.2))) cond))
    (he : ∀ (s : Shared) (H : Hp) (C : Addr) (cl : List (Str × Addr)) (fp : List Addr), PE (X.blk s H scope (compEnvC scope cl C X.env) fp) elt (tD (G.blk (own.map (·.2))) de))
    (hs : ∀ x, foldedSetIterable iter X.env x = pure x) (hsl : ∀ i ∈ slotsT t, i ∈ own.map (·.2))
include hc hN hi ok hg ht he hs hsl
theorem pf_comp : PE X (.ListComp elt [⟨tg, iter, ifs, 0⟩] scope pos) (tF G (dComp src t cond de (own.map (·.2)))) :=
  peI (pe_lc hc hN hi ok hg ht he hs) fun σ H Q h => lc_read hsl h
theorem pd_comp : PE X (.ListComp elt [⟨tg, iter, ifs, 0⟩] scope pos) (tD G (dComp src t cond de (own.map (·.2)))) :=
  peI (pf_comp hc hN hi ok hg ht he hs hsl) fun σ H Q h => tD_tF h
theorem psd_setLc {i : Nat} {y : Str} {py spos : Pos} (hy : X.N[i]? = some y) (hyl : X.env.scope.names.lookup y = some .local) (hsw : swapsWith (.ListComp elt [⟨tg, iter, ifs, 0⟩] scope pos) (some (.Name y py)) spos.line X.env = pure true) :
    PS X (.Assign [.Name y py] (.ListComp elt [⟨tg, iter, ifs, 0⟩] scope pos) spos) (tS G (sAsg i (dComp src t cond de (own.map (·.2))))) :=
  psI (ps_setLc hc hN hy hyl hsw hi ok hg ht he hs) fun Dd σ H h => by
    have hF : tF G (dComp src t cond de (own.map (·.2))) σ H fun v H1 => Dd.nx (σ.set i (some v)) H1 := by
      cases q : G.M.contains i with
      | true => exact asgF q h
      | false => exact tD_tF (asgD q h)
    exact lc_read hsl hF
end
/-! ### new lists -/
theorem pf_lst (h : PA X es (tDs G des)) : PE X (.List es pos) (tF G (dPrim .lst des)) :=
  peI (pe_lst h) fun σ H Q ⟨A, F, r, w, x, w', rel, e, post⟩ => by
    unfold dPrim at e
    cases hs : des G.c r w with
    | none => rw [hs] at e; cases e
    | some q =>
      obtain ⟨x1, w1⟩ := q
      rw [hs] at e
      cases x1 with
      | exc y => cases e; exact ⟨A, F, r, w, .exc y, _, rel, hs, post⟩
      | vals ds =>
        simp only at e
        rw [Option.map_eq_some_iff] at e
        obtain ⟨d, hd, e⟩ := e
        cases e
        replace hd : lstP ds = some d := hd
        unfold lstP at hd
        split at hd
        · rename_i hz; cases hd
          simp only [Bool.and_eq_true, decide_eq_true_eq] at hz
          refine ⟨A, F, r, w, .vals ds, _, rel, hs, fun vs A1 F1 H1 s1 o1 r1 => ?_⟩
          have rp := r1.plain hz.1
          refine ⟨by rw [rp.length]; exact zl hz.2, fun p hp => post (.ref p) A1 F1 _ (s1.trans (.newO s1.fh hp)) (o1.new (.newO s1.fh hp) (keep_new hp)) ⟨p, vs, ds, rfl, rfl, s1.fresh hp, upd_same, s1.fh.free hp, rp⟩⟩
        · cases hd
theorem pf_lstRng1 {p1' p2' p3' : Pos} (hc : X.calm = true) (hgr : Gl X "range") (hmr : X.mg "range" = none) (hg : Gl X "list") (hm : X.mg "list" = none) (ha : PE X a (tO G da)) (hst : starEach [a] X.env = (false, eval a X.env) :: starEach [] X.env) :
    PE X (.Call (.Name "list" p1') [.Call (.Name "range" p2') [a] [] p3'] [] pos) (tF G (dPrim .list (dCons (dPrim .rng1 (dCons da dNil)) dNil))) :=
  peI (pe_listRg hc hg hm (prg_1 hgr hmr ha hst)) fun σ H Q ⟨A, F, r, w, x, w', rel, e, post⟩ => by
    simp only [dPrim, dCons, dNil] at e
    cases hs : da G.c r w with
    | none => rw [hs] at e; cases e
    | some q =>
      obtain ⟨x1, w1⟩ := q
      rw [hs] at e
      cases x1 with
      | exc y => cases e; exact ⟨A, F, r, w, .exc y, _, rel, hs, post⟩
      | val d =>
        simp only at e
        cases h2 : prim .rng1 [d] with
        | none => rw [h2] at e; cases e
        | some d1 =>
          rw [h2] at e
          obtain ⟨j, rfl, ok, rfl⟩ := rng1_some (d := d) h2
          cases e
          refine ⟨A, F, r, w, .val (.int j), _, rel, hs, fun v A1 F1 H1 s1 o1 r1 => ⟨j, r1.int, ok, fun p hp => ?_⟩⟩
          exact post (.ref p) A1 F1 _ (s1.trans (.newO s1.fh hp)) (o1.new (.newO s1.fh hp) (keep_new hp)) ⟨p, _, _, rfl, rfl, s1.fresh hp, upd_same, s1.fh.free hp, rg_all F1 0 j⟩
end
end Rx

set_option Elab.async false
set_option linter.all false
set_option maxRecDepth 100000
set_option maxHeartbeats 1000000
set_option autoImplicit false
namespace Rx
open PySem L2
/-! ### calls of the program's own defs -/
/-- a def's promise: what c gives of the data -/
def spOf (K : PySem.W.Frag) (C : Addr) (ec : Nat → Option Value) (c : Cf) (f np : Nat) : Sp := fun vs H Q E => ∃ A F ds w x w', vs.length = np ∧ RtAll K A F vs ds ∧ Same F H ∧ Omg C A F H w ∧ c f ds w = some (x, w') ∧
  (match x with
   | R.val d => ∀ v A' F' H', Step A F H A' F' H' → Omg C A' F' H' w' → Rt K A' F' v d → Q v H'
   | R.exc y => ∀ cls dd A' F' H', Step A F H A' F' H' → Omg C A' F' H' w' → XRep ec F' H' cls dd y → E cls dd H')
section
variable {X : Cx} {G : Cg} {a b e : Expr} {es : List Expr} {da db de : Ex} {des : Exs} {pos : Pos}
theorem pd_call {k np fid : Nat} {f : Addr} {fd : FuncData} {ps : List Str} {x : Str} {p : Pos} (tk : Takes X G.W) (Fn : FnOk X.prog X.w X.K X.mg X.base (L2.CX X.prog X.w) k f fd ps (spOf G.K G.C G.ec G.c fid np)) (hr : Room k X.A) (hg : Gl X x) (hm : X.mg x = some (.ref f)) (hk : PySem.W.keepIn X.K (.ref f) = true) (hb : Binds X.K fd ps [])
    (ha : PA X (e :: es) (tDs G des)) (hnp : (e :: es).length = np) (hdb : (x == ("__debug__" : Str)) = false) (he : starEach (e :: es) X.env = (false, eval e X.env) :: starEach es X.env) (hpl : (backTo pos (starEach es X.env)).any (·.1) = false)
    (hlen : ∀ c r w ds w', des c r w = some (.vals ds, w') → ds.length = np) :
    PE X (.Call (.Name x p) (e :: es) [] pos) (tD G (dCall fid des)) :=
  peI (pe_callSD (dvs := []) (ds := []) (E := WE G.W) Fn hr hg hm hk hb .nil (fun σ => passAt tk σ) ha hdb he hpl) fun σ H Q ⟨A, F, r, w, x, w', rel, e, post⟩ => by
    unfold dCall at e
    cases h1 : des G.c r w with
    | none => rw [h1] at e; cases e
    | some pr =>
      obtain ⟨x1, w1⟩ := pr
      rw [h1] at e
      cases x1 with
      | exc y => cases e; exact ⟨A, F, r, w, .exc y, _, rel, h1, post⟩
      | vals ds =>
        simp only at e
        refine ⟨A, F, r, w, .vals ds, w1, rel, h1, fun vs A1 F1 H1 s1 o1 r1 => ?_⟩
        show spOf G.K G.C G.ec G.c fid np (vs ++ []) H1 Q (WE G.W σ)
        rw [List.append_nil]
        refine ⟨A1, F1, ds, w1, x, w', by rw [r1.length]; exact hlen _ _ _ _ _ h1, r1, s1.fh, o1, e, ?_⟩
        cases x with
        | val d => exact fun v A2 F2 H2 s2 o2 r2 => post v A2 F2 H2 (s1.trans s2) o2 r2
        | exc y => exact fun cls dd A2 F2 H2 s2 o2 q => post cls dd A2 F2 H2 (s1.trans s2) o2 q
/-- a def keeps its promise if its body does -/
theorem fn_ok {P : Program} {w : World} {K : PySem.W.Frag} {mg : Str → Option Value} {base : Heap} {x qual : Str} {st : Stmt} {f : Addr} {fd : FuncData} {N ps : List Str} {k np ns fid : Nat} {C : Addr} {ec : Nat → Option Value} {M : List Nat} {c c' : Cf} {body : Sx}
    (Fn : FunD K x qual (defArgs st) (defBody st) (defScope st) [] [] f fd) (S : FnScope N ps (defScope st)) (hnp : ps.length = np) (hns : N.length = ns) (hle : np ≤ ns)
    (hM : ∀ i, i < np → M.contains i = false)
    (hc' : ∀ ds w x w', c' fid ds w = some (x, w') → ds.length = np ∧ fin (body c (ds.map some ++ List.replicate (ns - np) none) w) = some (x, w'))
    (hbody : ∀ (cdv : Value) (A : Around) (outer : List PySem.Env) (s : Shared) (H : Hp) (E : XK) (A0 : List Addr) (F0 : Hp), Room k (A.deeper (PyProof.Rows.envOfC qual (defScope st) s.heap.objs.size f cdv)) →
      PSs (cxOf (L2.CX P w) P w K mg base N qual (defScope st) f cdv A outer s H E) (defBody st) (tS ⟨K, C, M, fun cls dd _ H' => E cls dd H', c, ec, A0, F0, H⟩ body)) :
    FnOk P w K mg base (L2.CX P w) (k + 1) f fd ps (spOf K C ec c' fid np) := by
  refine FunD.ok Fn S (fun vs H Q E h => ?_) (fun cdv A outer s H vs Q E hr h => ?_)
  · obtain ⟨_, _, _, _, _, _, hl, _⟩ := h
    rw [hl, hnp]
  · obtain ⟨A0, F0, ds, w0, x, w', hl, rt, sf, om, hrun, post⟩ := h
    obtain ⟨hlen, hfin⟩ := hc' ds w0 x w' hrun
    refine ⟨_, hbody cdv A outer s H E A0 F0 hr, ?_⟩
    cases hb : body c (ds.map some ++ List.replicate (ns - np) none) w0 with
    | none => rw [hb] at hfin; cases hfin
    | some pr =>
      obtain ⟨o, w1⟩ := pr
      rw [hb] at hfin
      -- the slots at the entry
      have hst : L2.start N vs = vs.map some ++ List.replicate (ns - np) none := by
        unfold L2.start; rw [hns, hl]
      have look : ∀ (i : Nat) (d : D), (ds.map some ++ List.replicate (ns - np) none)[i]? = some (some d) → ds[i]? = some d ∧ i < np := fun i d h => by
        by_cases hi : i < ds.length
        · rw [List.getElem?_append_left (by simpa using hi), List.getElem?_map] at h
          cases q : ds[i]? with
          | none => rw [q] at h; cases h
          | some d' => rw [q] at h; cases h; exact ⟨rfl, by omega⟩
        · rw [List.getElem?_append_right (by simpa using hi), List.getElem?_replicate] at h
          split at h <;> cases h
      have getv : ∀ {vs : List V} {ds : List D}, RtAll K A0 F0 vs ds → ∀ (i : Nat) (d : D), ds[i]? = some d → ∃ v, vs[i]? = some v ∧ Rt K A0 F0 v d := by
        intro vs ds h
        induction h with
        | nil => intro i d h; simp at h
        | cons a t ih =>
          intro i d h
          cases i with
          | zero => simp at h; subst h; exact ⟨_, rfl, a⟩
          | succ i => obtain ⟨v, e1, e2⟩ := ih i d (by simpa using h); exact ⟨v, by simpa using e1, e2⟩
      have noown : ∀ (i : Nat) (d : D), (ds.map some ++ List.replicate (ns - np) none)[i]? = some (some d) → ownd M i d = false := fun i d h => by
        unfold ownd; rw [hM i (look i d h).2]; rfl
      rw [hst]
      refine ⟨A0, F0, _, w0, o, w1, ⟨⟨sf, om, ?_, fun i d h q => ?_, fun i d h q => ?_, fun i j d e p hij h1 h2 o1 o2 h3 => ?_⟩, .refl sf, fun i d p h q => ?_⟩, hb, ?_⟩
      · simp [hl, hlen]
      · obtain ⟨e1, e2⟩ := look i d h
        obtain ⟨v, e3, e4⟩ := getv rt i d e1
        refine ⟨v, ?_, e4⟩
        have hi : i < vs.length := (List.getElem?_eq_some_iff.mp e3).1
        rw [List.getElem?_append_left (by simpa using hi), List.getElem?_map, e3]; rfl
      · rw [noown i d h] at q; cases q
      · rw [noown i d h1] at o1; cases o1
      · rw [noown i d h] at q; cases q
      · cases o with
        | next r =>
          cases hfin
          exact fun σ A' F' H' rs _ => post .non A' F' H' rs.ent rs.rel.om (.inl .non)
        | ret d =>
          cases hfin
          exact fun v A' F' H' s' o' rt' => post v A' F' H' s' o' rt'
        | exc y r =>
          cases hfin
          exact fun cls dd σ A' F' H' rs xr => post cls dd A' F' H' rs.ent rs.rel.om xr
/-! ### raise -/
/-- what is known of an exception class without a field -/
structure XC (X : Cx) (ec : Nat → Option Value) (k : Nat) (x : Str) (C : Addr) : Prop where
  at_ : ec k = some (.ref C)
  g : X.mg x = some (.ref C)
  kp : PySem.W.keepIn X.K (.ref C) = true
  ex : PySem.W.excIn X.K C [.type "ValueError", .type "Exception", .type "BaseException", .type "object"] "ValueError.__new__" = true
  rs : Raises X (.ref C)
theorem psd_raise {k : Nat} {x m : Str} {C : Addr} {j : Nat} {p p2 p3 : Pos} (hc : X.calm = true) (tk : Takes X G.W) (xc : XC X G.ec k x C) (hk : k ≠ 1) (hg : Gl X x) (hdb : (x == ("__debug__" : Str)) = false) :
    PS X (.Raise (some (.Call (.Name x p) [.Constant (.str m) j p2] [] p3)) none pos) (tS G (sRaise k)) :=
  psI (ps_raise hc tk (pmk_own PySem.F.excBase_ValueError xc.ex xc.g xc.kp xc.rs hg hdb)) fun Dd σ H ⟨A, F, r, w, x, w', rs, e, post⟩ => by
    cases e
    exact post (.ref C) none σ A F H rs ⟨xc.at_, .inl ⟨hk, rfl⟩⟩
end
end Rx

set_option Elab.async false
set_option linter.all false
set_option maxRecDepth 100000
set_option maxHeartbeats 1000000
set_option autoImplicit false
namespace Rx
open PySem L2 PySem.Spec
open PyProof.Rows (AllBare)
/-! ### except clauses with names, several of them: every suite gives back -/
/-- an exception that has landed in the frame of X -/
structure Cau (X : Cx) (pins : List (Addr × Obj)) (σ : St) (H : Hp) (e : Addr) (cls : Value) (dd : Option Addr) (B : Heap) (sI s : Shared) : Prop where
  J : Inv X pins σ H sI
  nb : ∀ b o, sI.heap.get? b = some o → b ∉ frs X.stack → B.get? b = some o
  up : sI.heap.UpToSlots s.heap
  fl : HandSPX.FlyingZ B (X.env :: X.outer) e (Zc cls dd) s.heap
  na : H e = none
  os : s.os = sI.os
  ag : AllBare s.gens
section
variable {X : Cx} {pins : List (Addr × Obj)} {σ : St} {H : Hp} {e : Addr} {cls : Value} {dd : Option Addr} {B : Heap} {sI s : Shared}
theorem Cau.inv (c : Cau X pins σ H e cls dd B sI s) : Inv X pins σ H s := c.J.landed c.nb c.fl.1 c.up c.os c.ag
/-- the suite's context -/
theorem Cau.held (hf : X.env.frame = some X.env.locals) (c : Cau X pins σ H e cls dd B sI s) : ∃ oe vs, s.heap.get? e = some oe ∧ Zc cls dd oe ∧ oe.data = .fields vs ∧ Inv (X.suite e ((e, oe) :: (X.pn ++ pins))) [] σ H s := by
  obtain ⟨oe, vs, g1, g2, g3⟩ := c.fl.there
  have far : e ∉ frs (X.env :: X.outer) := by
    intro m
    obtain ⟨_, o2, g4, g5⟩ := c.fl.2.2.1.mem m
    cases g1.symm.trans g4
    exact g5 _ g3
  have n1 : e ≠ X.env.locals := by
    intro q
    exact far (List.mem_filterMap.mpr ⟨X.env, .head _, hf.trans (congrArg some q.symm)⟩)
  have n2 : e ∉ X.fs := by
    intro m
    obtain ⟨v, hv, q⟩ := List.mem_filterMap.mp m
    exact far (List.mem_filterMap.mpr ⟨v, .tail _ hv, q⟩)
  exact ⟨oe, vs, g1, g2, g3, c.inv.suite g1 g3 c.na n1 n2⟩
/-- a clause's class, its name's slot, its suite -/
structure Cl where
  c : Value
  i : Nat
  ts : Addr → Value → Option Addr → TS
def endR (Dd : Ends) : Ends := { nx := fun _ _ => False, rt := Dd.rt, bk := fun _ _ => False, ct := fun _ _ => False }
def wCl (K : PySem.W.Frag) (Wo : WX) (Dd : Ends) : List Cl → WX
  | [] => Wo
  | k :: ks => fun cls d σ H => ∃ b, PySem.W.exmOne K cls k.c = some b ∧ (b = true → ∀ a, H a = none → k.ts a cls d (endR Dd) (σ.set k.i (some (.ref a))) H) ∧ (b = false → wCl K Wo Dd ks cls d σ H)
inductive ClOk (X : Cx) : List ExceptHandler → List Cl → Prop
  | nil : ClOk X [] []
  | cons {x n : Str} {k : Cl} {b1 : Stmt} {su : List Stmt} {p q : Pos} {hs : List ExceptHandler} {ks : List Cl} (hc : Names X x k.c) (hi : X.N[k.i]? = some n) (hl : X.env.kindOf n = some .local)
      (h : ∀ (a : Addr) (oe : Obj) (cls : Value) (d : Option Addr) (pn : List (Addr × Obj)), Zc cls d oe → (∃ vs, oe.data = .fields vs) → PSs (X.suite a ((a, oe) :: pn)) (b1 :: su) (k.ts a cls d))
      (r : ClOk X hs ks) : ClOk X (.ExceptHandler (some (.Name x p)) (some n) (b1 :: su) q :: hs) (k :: ks)
theorem cau_go {Dd : Ends} {Wo : WX} (hs : X.stack = X.env :: X.outer) (hf : X.env.frame = some X.env.locals) (hN : X.N.Nodup) (tk : Takes X Wo) (c : Cau X pins σ H e cls dd B sI s) {hds : List ExceptHandler} {ks : List Cl} (ok : ClOk X hds ks) :
    wCl X.K Wo Dd ks cls dd σ H → wpAny (model X.prog X.w) X.A (handleBy (.ref e) X.env hds) (SP X pins Dd) X.xe s := by
  induction ok with
  | nil =>
    intro w
    have up2 : wpAny (model X.prog X.w) X.A (setFlight (.ref e) X.env.frame) (fun _ s2 => wpAny (model X.prog X.w) X.A (throw (.ref e) : Sem Flow) (SP X pins Dd) X.xe s2) X.xe s := by
      rw [hf]
      exact HandSPX.setFlight_upZ c.fl fun h2 held u2 => wpAny_throw (tk _ _ ⟨e, B, sI, pins, σ, H, cls, dd, rfl, c.J, c.nb, c.up.trans u2, .inr (.inr (hs.symm ▸ held)), c.na, c.os, c.ag, w⟩)
    obtain ⟨_, _, _, oe, vs, T, _, _, g1, _, g3, g4, _⟩ := id c.fl
    refine wpAny_handleBy_nil ?_
    unfold PySem.passOn
    refine wpAny_bind (wpAny_field g1 g3 g4 ?_)
    rw [if_neg (by simp)]
    first
      | exact wpAny_bind (wpAny_pure (wpAny_bind up2))
      | exact wpAny_bind up2
  | @cons x n k b1 su p q hds ks hc hi hl h r ih =>
    rintro ⟨b, hb, yes, no⟩
    obtain ⟨oe, vs, g1, g2, g3, S⟩ := c.held hf
    refine wpAny_handleBy_cons (codeAny_handlers_test ?_) (fun z => nomatch z)
    have lk : PySem.W.Looks (model X.prog X.w) s.heap (typeOf (.ref e)) cls := fun _ _ _ _ kk qq => wpAny_typeOf_ref (kk _ _ g1) (g2.1.symm ▸ qq)
    have nm : ∀ {Q : Value → Shared → Prop} {E : Value → Shared → Prop}, Q k.c s → wpAny (model X.prog X.w) (X.A.mark (some (.ref e))) (eval (.Name x p) X.env) Q E s := by
      intro Q E z
      rcases hc with ⟨y1, y2, y3 | ⟨y3, y4, y5⟩⟩
      · exact ld_glob (X := X.suite e ((e, oe) :: (X.pn ++ pins))) S y1 y3 z y2
      · exact ld_blt (X := X.suite e ((e, oe) :: (X.pn ++ pins))) S y1 y3 y4 z y5 y2
    refine nm ((PySem.W.exm_one (M := model X.prog X.w) c.inv.kIn lk hb).here ?_)
    cases b with
    | false => exact ih (no rfl)
    | true =>
      refine codeAny_handlers_suite_as (HandSPX.lands_againZ c.fl fun h2 fl2 u2 => ?_)
      have c2 : Cau X pins σ H e cls dd B sI { s with heap := h2 } := ⟨c.J, c.nb, c.up.trans u2, fl2, c.na, c.os, c.ag⟩
      obtain ⟨oe2, vs2, _, z2, z3, S2⟩ := c2.held hf
      refine store_ok (X := X.suite e ((e, oe2) :: (X.pn ++ pins))) (v := .ref e) S2 hN hi (.inl hl) rfl (fun s3 S3 => ?_) (.inr hl)
      refine wpAny_mono ((h e oe2 cls dd (X.pn ++ pins) z2 ⟨_, z3⟩).run [] s3 _ H _ S3 (yes rfl e c.na)) (fun f s4 r4 => ?_) (fun _ _ z => z.elim)
      cases f with
      | ret u =>
        obtain ⟨v, σ4, H4, S4, rv, q4⟩ := r4
        exact gone_ok (S4.unsuite c.J.ok) hN hi hl fun s5 J5 => ⟨v, _, H4, J5, rv, q4⟩
      | next =>
        obtain ⟨_, _, _, q4⟩ := r4
        exact q4.elim
      | brk =>
        obtain ⟨_, _, _, q4⟩ := r4
        exact q4.elim
      | cont =>
        obtain ⟨_, _, _, q4⟩ := r4
        exact q4.elim
end
section
variable {X : Cx} {body : List Stmt} {h1 : ExceptHandler} {hds : List ExceptHandler} {ks : List Cl} {pos : Pos} {tb : WX → TS} {Wo : WX}
theorem ps_clauses (hs : X.stack = X.env :: X.outer) (hf : X.env.frame = some X.env.locals) (hN : X.N.Nodup) (tk : Takes X Wo)
    (hb : ∀ (W : WX) (pn : List (Addr × Obj)) (xe : Value → Shared → Prop), Takes (X.tr pn xe) W → PassesOwn (model X.prog X.w) X.A X.env xe → PSs (X.tr pn xe) body (tb W)) (ok : ClOk X (h1 :: hds) ks) :
    PS X (.Try body (h1 :: hds) [] [] pos) (fun Dd σ H => tb (wCl X.K Wo Dd ks) Dd σ H) := by
  refine ⟨fun pins s σ H Dd I h => wpAny_Try_except ?_⟩
  have fr : X.A.frames = some (X.env :: X.outer) := by rw [I.ok.frames, hs]
  let xe : Value → Shared → Prop := fun u s1 => wpAny (model X.prog X.w) X.A (noteFrame u X.env) (fun _ s2 => wpAny (model X.prog X.w) X.A (setFlight u none) (fun _ s3 => wpAny (model X.prog X.w) X.A (handleBy u X.env (h1 :: hds)) (SP X pins Dd) X.xe s3) X.xe s2) X.xe s1
  have tk2 : Takes (X.tr (X.pn ++ pins) xe) (wCl X.K Wo Dd ks) := by
    rintro u s2 ⟨a, B, sI, _, σ2, H2, cls, d, rfl, J, nb, up, sky, na, os, ag, w⟩
    have sky2 : Sky B (X.env :: X.outer) a (Zc cls d) X.env.locals s2.heap := hs ▸ sky
    exact Sky.land Zc.steady fr hf sky2 fun h3 fl u3 => cau_go hs hf hN tk (s := { s2 with heap := h3 }) ⟨J.ofTry I.ok, nb, up.trans u3, fl, na, os, ag⟩ ok w
  refine wpAny_mono ((hb _ (X.pn ++ pins) xe tk2 PassesOwn.looking).run [] s σ H Dd (I.toTry _) h) (fun f s1 q => ?_) (fun _ _ z => z)
  cases f with
  | next => obtain ⟨_, _, J, z⟩ := q; exact wpAny_execs_nil ⟨_, _, J.ofTry I.ok, z⟩
  | ret u => obtain ⟨_, _, _, J, r, z⟩ := q; exact ⟨_, _, _, J.ofTry I.ok, r, z⟩
  | brk => obtain ⟨_, _, J, z⟩ := q; exact ⟨_, _, J.ofTry I.ok, z⟩
  | cont => obtain ⟨_, _, J, z⟩ := q; exact ⟨_, _, J.ofTry I.ok, z⟩
end
end Rx

set_option Elab.async false
set_option linter.all false
set_option maxRecDepth 100000
set_option maxHeartbeats 1000000
set_option autoImplicit false
namespace Rx
open PySem L2
/-! ### try, by data -/
/-- a suite gives back what g says of the exception; slot i is its name's -/
def tSu (G : Cg) (i : Nat) (g : Xn → Option D) : Addr → Value → Option Addr → TS := fun a cls d Dd σ H => ∃ A F w x y, Same F H ∧ Omg G.C A F H w ∧ XRep G.ec F H cls d x ∧ g x = some y ∧ (∃ σ0 : St, σ = σ0.set i (some (.ref a))) ∧ H a = none ∧
  ∀ v A' F' H', Step A F H A' F' H' → Omg G.C A' F' H' w → Rt G.K A' F' v y → Dd.rt v H'
inductive HsOk (X : Cx) (G : Cg) : List ExceptHandler → List (Nat × (Xn → Option D)) → Prop
  | nil : HsOk X G [] []
  | cons {x n : Str} {i k : Nat} {g : Xn → Option D} {c : Value} {b1 : Stmt} {su : List Stmt} {p q : Pos} {hs : List ExceptHandler} {gs : List (Nat × (Xn → Option D))} (hc : Names X x c) (hx : ∀ j cls, G.ec j = some cls → PySem.W.exmOne X.K cls c = some (subX j k))
      (hi : X.N[i]? = some n) (hl : X.env.kindOf n = some .local)
      (h : ∀ (a : Addr) (oe : Obj) (cls : Value) (d : Option Addr) (pn : List (Addr × Obj)), Zc cls d oe → (∃ vs, oe.data = .fields vs) → PSs (X.suite a ((a, oe) :: pn)) (b1 :: su) (tSu G i g a cls d))
      (r : HsOk X G hs gs) : HsOk X G (.ExceptHandler (some (.Name x p)) (some n) (b1 :: su) q :: hs) ((k, g) :: gs)
section
variable {X : Cx} {G : Cg} {body : List Stmt} {h1 : ExceptHandler} {hds : List ExceptHandler} {gs : List (Nat × (Xn → Option D))} {pos : Pos} {db : Sx}
theorem HsOk.cl (ok : HsOk X G hds gs) : ∃ ks, ClOk X hds ks ∧ ∀ (Dd : Ends) cls dd σ A F H r w x out w' Fp, RelS G A F H σ r w → XRep G.ec F H cls dd x → hGo x r w gs = some (out, w') → PostS G Dd Fp out w' → wCl X.K G.W Dd ks cls dd σ H := by
  induction ok with
  | nil =>
    refine ⟨[], .nil, fun Dd cls dd σ A F H r w x out w' Fp rs xr e post => ?_⟩
    unfold hGo at e
    cases e
    exact post cls dd σ A F H rs xr
  | @cons x n i k g c b1 su p q hs gs hc hx hi hl h r ih =>
    obtain ⟨ks, ck, hk⟩ := ih
    refine ⟨⟨c, i, tSu G i g⟩ :: ks, .cons (k := ⟨c, i, tSu G i g⟩) hc hi hl h ck, fun Dd cls dd σ A F H r w y out w' Fp rs xr e post => ⟨subX y.cls k, hx _ _ xr.1, fun hb a na => ?_, fun hb => ?_⟩⟩
    · unfold hGo at e
      rw [if_pos hb] at e
      cases hg : g y with
      | none => rw [hg] at e; cases e
      | some d =>
        rw [hg] at e; cases e
        exact ⟨A, F, _, y, d, rs.rel.fh, rs.rel.om, xr, hg, ⟨σ, rfl⟩, na, fun v A' F' H' s' o' rt => post v A' F' H' (rs.ent.trans s') o' rt⟩
    · unfold hGo at e
      rw [if_neg (by rw [hb]; decide)] at e
      exact hk Dd cls dd σ A F H r w y out w' Fp rs xr e post
theorem psd_try (hs : X.stack = X.env :: X.outer) (hf : X.env.frame = some X.env.locals) (hN : X.N.Nodup) (tk : Takes X G.W)
    (hb : ∀ (W : WX) (pn : List (Addr × Obj)) (xe : Value → Shared → Prop), Takes (X.tr pn xe) W → PassesOwn (model X.prog X.w) X.A X.env xe → PSs (X.tr pn xe) body (tS { G with W := W } db))
    (ok : HsOk X G (h1 :: hds) gs) : PS X (.Try body (h1 :: hds) [] [] pos) (tS G (sTry db gs)) := by
  obtain ⟨ks, ck, hk⟩ := ok.cl
  refine psI (ps_clauses hs hf hN tk (tb := fun W => tS { G with W := W } db) hb ck) fun Dd σ H ⟨A, F, r, w, x, w', rs, e, post⟩ => ?_
  unfold sTry at e
  refine ⟨A, F, r, w, ?_⟩
  generalize hq : db G.c r w = q at e
  cases q with
  | none => cases e
  | some pr =>
    obtain ⟨o, w1⟩ := pr
    refine ⟨o, w1, ⟨rs.rel, rs.ent, rs.new⟩, by first | rfl | exact hq, ?_⟩
    cases o with
    | next r1 =>
      cases e
      exact fun σ' A' F' H' q s => post σ' A' F' H' ⟨q.rel, q.ent, q.new⟩ s
    | ret d =>
      cases e
      exact fun v A' F' H' q o rt => post v A' F' H' q o rt
    | exc y r1 => exact fun cls dd σ' A' F' H' q xr => hk Dd cls dd σ' A' F' H' r1 w1 y x w' F ⟨q.rel, q.ent, q.new⟩ xr e post
end
/-! ### what a suite asks of its exception -/
section
variable {X : Cx} {a : Addr} {i : Nat} {n : Str} {e e2 : Expr} {pos : Pos}
/-- the value v, whatever else; slot i holds the exception -/
def tK (i : Nat) (a : Addr) (v : V) : TE := fun σ H Q => (∃ σ0 : St, σ = σ0.set i (some (.ref a))) ∧ Q v H
def tKb (i : Nat) (a : Addr) (b : Bool) : TT := fun σ H Q => (∃ σ0 : St, σ = σ0.set i (some (.ref a))) ∧ Q b H
theorem pk_name (hi : X.N[i]? = some n) (hv : Vis X.env.scope n) (hd : (n == ("__debug__" : Str)) = false) (hcd : (n == ("__classdict__" : Str)) = false) : PE X (.Name n pos) (tK i a (.ref a)) := by
  refine ⟨fun pins s σ H Q I q => (pe_var (i := i) hi hv hd hcd).run pins s σ H Q I ?_⟩
  obtain ⟨⟨σ0, rfl⟩, q⟩ := q
  refine ⟨.ref a, ?_, q⟩
  have hl : i < σ0.length := by
    have h2 := I.len
    rw [List.length_set] at h2
    rw [h2]
    exact (List.getElem?_eq_some_iff.mp hi).1
  rw [List.getElem?_set_self hl]
theorem pk_str {x : Str} {j : Nat} : PE X (.Constant (.str x) j pos) (tK i a (.str x)) := peI pe_str fun _ _ _ h => h.2
theorem ptk_isi {G : Cg} {oe : Obj} {pn : List (Addr × Obj)} {C : Addr} {u : Value} {x : Str} {b : Bool} {ps p1 p2 : Pos} (ec : ExcC X.K C) (hz : Zc (.ref C) none oe) (hfd : ∃ vs, oe.data = .fields vs) (hk : PySem.W.kitOne X.K (.ref C) u = some b)
    (hi : X.N[i]? = some n) (hv : Vis X.env.scope n) (hd : (n == ("__debug__" : Str)) = false) (hcd : (n == ("__classdict__" : Str)) = false) (hg : X.env.kindOf "isinstance" = some .globalImplicit) (hm : X.mg "isinstance" = none) (hgx : X.env.kindOf x = some .globalImplicit) (hmx : X.mg x = some u) {cv : V} (hcv : RelV cv u) (hun : ∀ z, RelV cv z → z = u) (hdx : (x == ("__debug__" : Str)) = false) :
    PE (X.suite a ((a, oe) :: pn)) (.Call (.Name "isinstance" ps) [.Name n p1, .Name x p2] [] pos) (tK i a (.bl b)) := by
  refine peI (pe_callB (call_isE ec hz hfd) hg hm (by decide +kernel) (pa_cons (pk_name (a := a) hi hv hd hcd) (pa_cons (pe_glob hgx hmx hcv hdx) pa_nil rfl) rfl) (by decide) (by decide) rfl rfl) fun σ H Q q => ?_
  exact ⟨q.1, cv, u, b, rfl, hun, hk, q.2⟩
theorem ptk_of {b : Bool} (h : PE X e (tK i a (.bl b))) (he : ∀ whole, isTrue e X.env whole = (do let v ← whole; standAt e.pos; holding [v] (truthy v))) : PT X e (tKb i a b) :=
  ptI (pt_truth h he) fun σ H Q q => ⟨q.1, b, rfl, q.2⟩
theorem ptk_not {b : Bool} (h : PT X e (tKb i a b)) : PT X (.UnaryOp .Not e pos) (tKb i a (!b)) := ptI (pt_not h) fun σ H Q q => by
  cases b <;> exact ⟨q.1, q.2⟩
theorem ptk_and {b b2 : Bool} (h : PT X e (tKb i a b)) (h2 : PT X e2 (tKb i a b2)) : PT X (.BoolOp .And [e, e2] pos) (tKb i a (b && b2)) := by
  refine ptI (pw_and h (pw_and1 h2)).pt fun σ H Q q => ⟨q.1, ?_⟩
  cases b with
  | true => exact ⟨q.1, q.2⟩
  | false => exact q.2
theorem psk_ite {G : Cg} {g : Xn → Option D} {cls : Value} {d : Option Addr} {c : Expr} {x y : Str} {j j2 : Nat} {p2 p3 p4 : Pos} {b : Xn → Bool} (hg : ∀ z, g z = some (.str (if b z then x else y))) (hb : ∀ z, G.ec z.cls = some cls → d = none → PT X c (tKb i a (b z))) (hd : ∀ (F H : Hp) (z : Xn), XRep G.ec F H cls d z → d = none) :
    PSs X [.Return (some (.IfExp c (.Constant (.str x) j p2) (.Constant (.str y) j2 p3) p4)) pos] (tSu G i g a cls d) := by
  refine ⟨fun pins s σ H Dd I q => ?_⟩
  obtain ⟨A, F, w, z, r, sf, om, xr, e, hσ, na, post⟩ := q
  refine (pss_one (ps_ret (pe_ifExp (hb z xr.1 (hd F H z xr)) pe_str pe_str))).run pins s σ H Dd I ?_
  rw [hg] at e
  cases e
  refine ⟨hσ, ?_⟩
  cases hz : b z with
  | true =>
    rw [hz] at post
    exact post (.str x) A F H (.refl sf) om (.inl (.str x))
  | false =>
    rw [hz] at post
    exact post (.str y) A F H (.refl sf) om (.inl (.str y))
end
end Rx

set_option Elab.async false
set_option linter.all false
set_option maxRecDepth 100000
set_option maxHeartbeats 1000000
set_option autoImplicit false
namespace Rx
open PySem L2
/-! ### a program's defs, by number -/
structure Df where
  st : Stmt
  x : Str
  N : List Str
  ps : List Str
  M : List Nat
  body : Sx
def tbOf (L : List (Nat × Df)) : Tb := fun i => (L.lookup i).map fun d => ⟨d.ps.length, d.N.length, d.body⟩
section
variable (P : Program) (w : World) (K : PySem.W.Frag) (mg : Str → Option Value) (base : Heap) (C : Addr) (ec : Nat → Option Value)
def Callee (c : Cf) (k : Nat) (x : Str) (fid np : Nat) : Prop := ∃ (f : Addr) (fd : FuncData) (ps : List Str), ps.length = np ∧ mg x = some (.ref f) ∧ PySem.W.keepIn K (.ref f) = true ∧ Binds K fd ps [] ∧ FnOk P w K mg base (L2.CX P w) k f fd ps (spOf K C ec c fid np)
def BodyOk (c : Cf) (k : Nat) (d : Df) : Prop := ∀ (f : Addr) (cdv : Value) (A : Around) (outer : List PySem.Env) (s : Shared) (H : Hp) (E : XK) (A0 : List Addr) (F0 : Hp), Room k (A.deeper (PyProof.Rows.envOfC d.x (defScope d.st) s.heap.objs.size f cdv)) →
  PSs (cxOf (L2.CX P w) P w K mg base d.N d.x (defScope d.st) f cdv A outer s H E) (defBody d.st) (tS ⟨K, C, d.M, fun cls dd _ H' => E cls dd H', c, ec, A0, F0, H⟩ d.body)
def AllD (p : Df → Prop) : List (Nat × Df) → Prop
  | [] => True
  | d :: r => p d.2 ∧ AllD p r
theorem AllD.at_ {p : Df → Prop} : ∀ {L : List (Nat × Df)} {i : Nat} {d : Df}, AllD p L → L.lookup i = some d → p d
  | [], _, _, _, h => by cases h
  | (j, e) :: r, i, d, a, h => by
    rw [List.lookup_cons] at h
    split at h
    · cases h; exact a.1
    · exact AllD.at_ (L := r) (i := i) a.2 h
variable {P w K mg base C ec}
theorem all_ok {L : List (Nat × Df)} (hF : AllD (fun d => ∃ (f : Addr) (fd : FuncData), mg d.x = some (.ref f) ∧ FunD K d.x d.x (defArgs d.st) (defBody d.st) (defScope d.st) [] [] f fd ∧ Binds K fd d.ps []) L)
    (hS : AllD (fun d => FnScope d.N d.ps (defScope d.st) ∧ d.ps.length ≤ d.N.length ∧ ∀ i, i < d.ps.length → d.M.contains i = false) L)
    (hB : ∀ (c : Cf) (k : Nat), (∀ (j : Nat) (e : Df), L.lookup j = some e → Callee P w K mg base C ec c k e.x j e.ps.length) → AllD (BodyOk P w K mg base C ec c k) L) :
    ∀ (n i : Nat) (d : Df), L.lookup i = some d → Callee P w K mg base C ec (run (tbOf L) n) n d.x i d.ps.length := by
  intro n
  induction n with
  | zero =>
    intro i d h
    obtain ⟨f, fd, e1, e2, e3⟩ := hF.at_ h
    refine ⟨f, fd, d.ps, rfl, e1, e2.kp, e3, ⟨fun vs H Q E q => ?_, fun A outer s H args us vs Q E _ _ _ _ q => ?_⟩⟩
    · obtain ⟨_, _, _, _, _, _, hl, _⟩ := q; exact hl
    · obtain ⟨_, _, _, _, _, _, _, _, _, _, hr, _⟩ := q; cases hr
  | succ n ih =>
    intro i d h
    obtain ⟨f, fd, e1, e2, e3⟩ := hF.at_ h
    obtain ⟨s1, s2, s3⟩ := hS.at_ h
    have b := (hB _ n ih).at_ h
    refine ⟨f, fd, d.ps, rfl, e1, e2.kp, e3, fn_ok (c := run (tbOf L) n) e2 s1 rfl rfl s2 s3 (fun ds w0 x w' hr => ?_) (fun cdv A outer s H E A0 F0 hr => b f cdv A outer s H E A0 F0 hr)⟩
    have ht : tbOf L i = some ⟨d.ps.length, d.N.length, d.body⟩ := by unfold tbOf; rw [h]; rfl
    unfold run at hr
    rw [ht] at hr
    simp only at hr
    split at hr
    · rename_i hq; exact ⟨hq.1, hr⟩
    · cases hr
end
section
variable {X : Cx} {G : Cg} {e : Expr} {es : List Expr} {des : Exs} {pos : Pos}
theorem dCons_len {a : Ex} {n : Nat} (h : ∀ c r w ds w', des c r w = some (.vals ds, w') → ds.length = n) : ∀ c r w ds w', dCons a des c r w = some (.vals ds, w') → ds.length = n + 1 := fun c r w ds w' q => by
  obtain ⟨d, ds', w1, rfl, _, q2⟩ := dCons_some q
  rw [List.length_cons, h _ _ _ _ _ q2]
theorem dNil_len : ∀ c r w ds w', dNil c r w = some (.vals ds, w') → ds.length = 0 := fun c r w ds w' q => by rw [dNil_some q]; rfl
theorem pd_callE {k np fid : Nat} {x : Str} {p : Pos} (hK : G.K = X.K) (tk : Takes X G.W) (Fn : Callee X.prog X.w X.K X.mg X.base G.C G.ec G.c k x fid np) (hr : Room k X.A) (hg : Gl X x)
    (ha : PA X (e :: es) (tDs G des)) (hnp : (e :: es).length = np) (hdb : (x == ("__debug__" : Str)) = false) (he : starEach (e :: es) X.env = (false, eval e X.env) :: starEach es X.env) (hpl : (backTo pos (starEach es X.env)).any (·.1) = false)
    (hlen : ∀ c r w ds w', des c r w = some (.vals ds, w') → ds.length = np) : PE X (.Call (.Name x p) (e :: es) [] pos) (tD G (dCall fid des)) := by
  obtain ⟨f, fd, ps, hp, hm, hk, hb, fn⟩ := Fn
  rw [← hK] at fn
  rw [hK] at fn
  exact pd_call tk (by rw [hK]; exact fn) hr hg hm hk hb ha hnp hdb he hpl hlen
end
/-! ### exception classes -/
def ecOf (K : PySem.W.Frag) (xs : List (Nat × Str)) : Nat → Option Value := fun j => (xs.lookup j).map fun x => .ref (He.ga K x)
def excB (K : PySem.W.Frag) (D : Addr) : Bool :=
  He.eqO (PySem.W.findIn K (.ref D) "__getattribute__") (some (some (.builtin "BaseException.__getattribute__"))) && (He.eqO (PySem.W.findIn K (.ref D) "__getattr__") (some none) && (decide (PySem.W.subIn K (.ref D) (.type "BaseException") = some true) && (PySem.W.hasDictIn K D &&
  (He.eqO (PySem.W.findIn K (.ref D) "__class__") (some (some (.builtin "object.__class__"))) && (He.eqO (PySem.W.specialIn K (.builtin "object.__class__") "__get__") (some (some (.builtin "getset_descriptor.__get__"))) && (decide (PySem.W.takesIn K (.builtin "object.__class__") = some true) && decide (PySem.W.mroIn K D (.type "object") = some true)))))))
theorem excB_ok {K : PySem.W.Frag} {D : Addr} (h : excB K D = true) : ExcC K D := by
  unfold excB at h
  simp only [Bool.and_eq_true, decide_eq_true_eq] at h
  obtain ⟨h1, h2, h3, h4, h5, h6, h7, h8⟩ := h
  exact ⟨He.eqO_ok h1, He.eqO_ok h2, h3, h4, He.eqO_ok h5, He.eqO_ok h6, h7, h8⟩
def xsOk (K : PySem.W.Frag) (xs : List (Nat × Str)) : Bool := xs.all fun p => (He.Fa.glo p.2).ok K && ((He.Fa.exc p.2).ok K && (excB K (He.ga K p.2) && (decide (p.1 ≠ 1) && xs.all fun q => (He.Fa.exm p.2 q.2 (subX p.1 q.1)).ok K && (He.ga K p.2 != He.ga K q.2 || subX p.1 q.1))))
/-- the law's exception classes: their numbers, their names -/
structure XAll (K : PySem.W.Frag) (mg : Str → Option Value) (ec : Nat → Option Value) (xs : List (Nat × Str)) : Prop where
  at_ : ∀ k x, xs.lookup k = some x → ∃ C, ec k = some (.ref C) ∧ mg x = some (.ref C) ∧ PySem.W.keepIn K (.ref C) = true ∧ PySem.W.excIn K C [.type "ValueError", .type "Exception", .type "BaseException", .type "object"] "ValueError.__new__" = true ∧ PySem.W.subIn K (.ref C) (.type "BaseException") = some true ∧ PySem.W.typeIn K (.ref C) = some (.type "type")
  inv : ∀ j cls, ec j = some cls → j ≠ 1 ∧ ∃ C, cls = .ref C ∧ ExcC K C ∧ ∀ k x u, xs.lookup k = some x → mg x = some u → PySem.W.exmOne K cls u = some (subX j k) ∧ PySem.W.kitOne K cls u = some (subX j k)
theorem lookup_mem {α β : Type} [BEq α] [LawfulBEq α] {k : α} {x : β} : ∀ {xs : List (α × β)}, xs.lookup k = some x → (k, x) ∈ xs
  | [], h => by cases h
  | (a, b) :: r, h => by
    rw [List.lookup_cons] at h
    split at h
    · rename_i q
      have := eq_of_beq q
      subst this
      cases h
      exact .head _
    · exact .tail _ (lookup_mem h)
theorem xsOk_all {K : PySem.W.Frag} {mg : Str → Option Value} {h : Heap} {xs : List (Nat × Str)} (X : K.In h) (G : h.Ns mainGlobals mg) (ok : xsOk K xs = true) : XAll K mg (ecOf K xs) xs := by
  have one : ∀ k x, xs.lookup k = some x → mg x = some (.ref (He.ga K x)) ∧ (He.Fa.exc x).ok K = true ∧ excB K (He.ga K x) = true ∧ k ≠ 1 ∧ ∀ q ∈ xs, (He.Fa.exm x q.2 (subX k q.1)).ok K = true ∧ (He.ga K x = He.ga K q.2 → subX k q.1 = true) := fun k x hk => by
    have m := List.all_eq_true.mp ok (k, x) (lookup_mem hk)
    simp only [Bool.and_eq_true, decide_eq_true_eq] at m
    obtain ⟨m1, m2, m3, m4, m5⟩ := m
    refine ⟨He.glo_ok X G m1, m2, m3, m4, fun q hq => ?_⟩
    have m6 := List.all_eq_true.mp m5 q hq
    simp only [Bool.and_eq_true, Bool.or_eq_true] at m6
    refine ⟨m6.1, fun e => ?_⟩
    rcases m6.2 with z | z
    · rw [e] at z; simp at z
    · exact z
  refine ⟨fun k x hk => ?_, fun j cls hj => ?_⟩
  · obtain ⟨e1, e2, e3, e4, e5⟩ := one k x hk
    obtain ⟨x1, x2, x3, x4⟩ := He.exc_ok e2
    exact ⟨He.ga K x, by unfold ecOf; rw [hk]; rfl, e1, x2, x1, x3, x4⟩
  · unfold ecOf at hj
    cases hx : xs.lookup j with
    | none => rw [hx] at hj; cases hj
    | some y =>
      rw [hx] at hj; cases hj
      obtain ⟨e1, e2, e3, e4, e5⟩ := one j y hx
      refine ⟨e4, He.ga K y, rfl, excB_ok e3, fun k x u hk hu => ?_⟩
      obtain ⟨f1, _⟩ := one k x hk
      have e := hu.symm.trans f1
      cases e
      obtain ⟨q1, q2⟩ := e5 (k, x) (lookup_mem hk)
      have q3 := He.exm_ok q1
      refine ⟨q3, ?_⟩
      unfold PySem.W.kitOne
      split
      · rename_i z
        have z2 : He.ga K y = He.ga K x := by
          have := eq_of_beq z
          exact Value.ref.inj this
        rw [q2 z2]
      · unfold PySem.W.exmOne at q3
        split at q3
        · exact q3
        · cases q3
section
variable {X : Cx} {G : Cg} {pos : Pos} {xs : List (Nat × Str)}
theorem psd_raiseE {k : Nat} {x m : Str} {j : Nat} {p p2 p3 : Pos} (hc : X.calm = true) (tk : Takes X G.W) (xa : XAll X.K X.mg G.ec xs) (hx : xs.lookup k = some x) (hg : Gl X x) (hdb : (x == ("__debug__" : Str)) = false) :
    PS X (.Raise (some (.Call (.Name x p) [.Constant (.str m) j p2] [] p3)) none pos) (tS G (sRaise k)) := by
  obtain ⟨C, a1, a2, a3, a4, a5, a6⟩ := xa.at_ k x hx
  exact psd_raise hc tk ⟨a1, a2, a3, a4, raises_own a5 a6⟩ (xa.inv k _ a1).1 hg hdb
/-- `except x as n: return s if isinstance(n, y) and not isinstance(n, z) else t` -/
theorem hs_two {i k k2 k3 : Nat} {n x y z s t : Str} {hs : List ExceptHandler} {gs : List (Nat × (Xn → Option D))} {j1 j2 : Nat} {p q q1 q2 q3 q4 q5 q6 q7 q8 q9 q10 q11 q12 q13 q14 : Pos} (xa : XAll X.K X.mg G.ec xs)
    (hx : xs.lookup k = some x) (hy : xs.lookup k2 = some y) (hz : xs.lookup k3 = some z) (gx : Gl X x) (gy : X.env.kindOf y = some .globalImplicit) (gz : X.env.kindOf z = some .globalImplicit) (gi : X.env.kindOf "isinstance" = some .globalImplicit) (mi : X.mg "isinstance" = none)
    (hi : X.N[i]? = some n) (hl : X.env.kindOf n = some .local) (hv : Vis X.env.scope n) (hd : (n == ("__debug__" : Str)) = false) (hcd : (n == ("__classdict__" : Str)) = false) (dx : (x == ("__debug__" : Str)) = false) (dy : (y == ("__debug__" : Str)) = false) (dz : (z == ("__debug__" : Str)) = false)
    (r : HsOk X G hs gs) :
    HsOk X G (.ExceptHandler (some (.Name x p)) (some n) [.Return (some (.IfExp (.BoolOp .And [.Call (.Name "isinstance" q1) [.Name n q2, .Name y q3] [] q4, .UnaryOp .Not (.Call (.Name "isinstance" q5) [.Name n q6, .Name z q7] [] q8) q9] q10) (.Constant (.str s) j1 q11) (.Constant (.str t) j2 q12) q13)) q14] q :: hs)
      ((k, fun e => some (.str (if subX e.cls k2 && !subX e.cls k3 then s else t))) :: gs) := by
  obtain ⟨C, a1, a2, _⟩ := xa.at_ k x hx
  obtain ⟨Cy, _, b2, _⟩ := xa.at_ k2 y hy
  obtain ⟨Cz, _, c2, _⟩ := xa.at_ k3 z hz
  refine .cons (c := .ref C) ⟨gx, dx, .inl a2⟩ (fun j cls hj => ?_) hi hl (fun a oe cls d pn hzc hfd => ?_) r
  · obtain ⟨_, D, rfl, _, h⟩ := xa.inv j cls hj
    exact (h k x _ hx a2).1
  · refine psk_ite (b := fun e => subX e.cls k2 && !subX e.cls k3) (fun _ => rfl) (fun w hw hdn => ?_) (fun F H w xr => ?_)
    · obtain ⟨_, D, rfl, ed, h⟩ := xa.inv _ cls hw
      subst hdn
      refine ptk_and (ptk_of (ptk_isi (G := G) ed hzc hfd (h k2 y _ hy b2).2 hi hv hd hcd gi mi gy b2 (cv := .ref Cy) rfl (fun _ e => e) dy) (fun _ => rfl)) (ptk_not (ptk_of (ptk_isi (G := G) ed hzc hfd (h k3 z _ hz c2).2 hi hv hd hcd gi mi gz c2 (cv := .ref Cz) rfl (fun _ e => e) dz) (fun _ => rfl)))
    · rcases xr.2 with z | z
      · exact z.2
      · exact absurd z.1 (xa.inv _ cls xr.1).1
end
/-! ### the law's head and end -/
def hookX (n : Nat) (fa : List He.Fa) (fn : List He.DefD) (xs : List (Nat × Str)) : PySem.W.Hook where
  α := He.AlD × Bool
  obs := fun s => (He.obsDG n fa fn s.heap.get?, xsOk (He.frG s.heap.get? (He.asD s.heap.get? n)) xs)
  val := fun _ => (He.valD fn, true)
  says := fun _ h => ∃ K : PySem.W.Frag, K.In h ∧ He.SaysD fa fn K ∧ xsOk K xs = true
  of := fun _ s e => ⟨He.frG s.heap.get? (He.asD s.heap.get? n), He.frG_in, congrArg Prod.fst e, congrArg Prod.snd e⟩
  keeps := fun _ _ _ ⟨K, hK, c⟩ k => ⟨K, PySem.W.Frag.In.keeps hK k, c⟩
def obX (n : Nat) (fa : List He.Fa) (fn : List He.DefD) (xs : List (Nat × Str)) (s : PySem.W.SharedT) : He.AlD × Bool := (He.obsDG n fa fn (HandSHeadRun.getT s), xsOk (He.frG (HandSHeadRun.getT s) (He.asD (HandSHeadRun.getT s) n)) xs)
theorem obX_eq {n : Nat} {fa : List He.Fa} {fn : List He.DefD} {xs : List (Nat × Str)} (s : PySem.W.SharedT) : obX n fa fn xs s = (hookX n fa fn xs).obs s.abs := by
  have e : HandSHeadRun.getT s = s.abs.heap.get? := funext (HandSHeadRun.getT_eq s)
  unfold obX
  rw [e]
  rfl
theorem cxx_no {P : Program} {w : World} {H : Hp} {s : Shared} {e : Value} {s' : Shared} (h : L2.CX P w [] H s (fun _ _ _ => False) e s') : False := by
  obtain ⟨_, _, _, _, _, _, _, _, _, _, _, _, z⟩ := h
  exact z
theorem walkX {l : PySem.W.OpenLaw} {n k : Nat} {q : Program} {loose : List Str} {XP : (Str → Option Value) → Heap → Prop} {YP : World → Heap → Prop} {d : DefRec} {x : Str}
    (hn : l.most = some n) (hn2 : n ≤ sizeLine) (hdf : d.params.defaults = []) (hr : Room k callerA)
    (F : ∀ (w : World) (mg : Str → Option Value) (f : Addr) (h : Heap), YP w h → h.Ns mainGlobals mg → mg d.name = some (.ref f) →
      ∃ (K : PySem.W.Frag) (fd : FuncData) (sp : Sp), K.In h ∧ (∀ (s : Shared) (u : Value), BindsTo s fd ⟨[u], []⟩ [(x, u)]) ∧
        (∀ (H : Hp) (a : Addr) (ns : List Int), ns.length ≤ n → Only H → SqL K H a (ns.map V.int) → sp [.ref a] H (fun v _ => v = .bl true) fun _ _ _ => False) ∧
        ∀ base : Heap, K.In base → base.Ns mainGlobals mg → FnOk l.prog w K mg base (L2.CX l.prog w) k f fd [x] sp) :
    PySem.W.WalkO q loose XP YP l.row.toRowW d [] (fun f vs => PySem.call f vs) := by
  refine Att.attach_call hn hdf fun w s0 s1 mg mb f o pm cd doc a vs ns g1 g2 g3 g4 g5 g6 g7 g8 g9 g10 => ?_
  obtain ⟨K, fd, sp, c1, c2, c3, c4⟩ := F w mg f _ g2 g1.T.g g6
  exact law_call c1 g1.T.g g1.T.b g1.T.builtins g1.T.nolimit g10 g7 g8 (Nat.le_trans g9 hn2) hr c4 c2 (fun H hO hS => c3 H a ns g9 hO hS) fun H e s' z => cxx_no z
end Rx

set_option Elab.async false
set_option linter.all false
set_option maxRecDepth 100000
set_option maxHeartbeats 1000000
set_option autoImplicit false
namespace Rx
open PySem L2
section
variable {X : Cx} {G : Cg} {a b c e tg iter elt : Expr} {es : List Expr} {body : List Stmt} {da db dc de : Ex} {des src : Exs} {dbd : Sx} {pos ps : Pos}
/-! ### builtins, in short -/
theorem pd_fnB {id : String} {p : Pr} {x : Str} (h : FnS X G (.builtin id) p) (hg : Gl X x) (hm : X.mg x = none) (hv : bootBuiltins x = some (.builtin id)) (ha : PA X (e :: es) (tOs G des)) (hn : x ≠ "__name__") (hdb : (x == ("__debug__" : Str)) = false)
    (he : starEach (e :: es) X.env = (false, eval e X.env) :: starEach es X.env) (hpl : (backTo pos (starEach es X.env)).any (·.1) = false) : PE X (.Call (.Name x ps) (e :: es) [] pos) (tD G (dPrim p des)) := by
  obtain ⟨r, h1, h2⟩ := h
  exact pd_callB h1 h2 hg hm hv ha hn hdb he hpl
theorem pd_fnT {T : String} {p : Pr} {x : Str} (h : FnS X G (.type T) p) (hg : Gl X x) (hm : X.mg x = none) (hv : bootBuiltins x = some (.type T)) (ha : PA X (e :: es) (tOs G des)) (hn : x ≠ "__name__") (hdb : (x == ("__debug__" : Str)) = false)
    (he : starEach (e :: es) X.env = (false, eval e X.env) :: starEach es X.env) (hpl : (backTo pos (starEach es X.env)).any (·.1) = false) : PE X (.Call (.Name x ps) (e :: es) [] pos) (tD G (dPrim p des)) := by
  obtain ⟨r, h1, h2⟩ := h
  exact pd_callTy h1 h2 hg hm hv ha hn hdb he hpl
theorem fs_srt (hu : X.A.units + 64 < cLine) : FnS X G (.builtin "sorted") .sorted := ⟨_, cr_srt hu, fun Q vs H k => fs_sorted (G := G) hu Q vs H (by
  obtain ⟨A, F, w, v, d1, d, e1, s, o, r, e, f⟩ := p1_args (f := sortedP) rfl k
  cases d1 with
  | list ds => exact ⟨A, F, w, v, ds, d, e1, s, o, r, e, f⟩
  | _ => cases e)⟩
section
variable (hst : starEach [a] X.env = (false, eval a X.env) :: starEach [] X.env)
include hst
theorem pd_len (hK : G.K = X.K) (hg : Gl X "len") (hm : X.mg "len" = none) (ha : PE X a (tO G da)) : PE X (.Call (.Name "len" ps) [a] [] pos) (tD G (dPrim .len (dCons da dNil))) :=
  pd_fnB (fs_len hK) hg hm (by decide +kernel) (pao_cons ha pao_nil hst) (by decide) (by decide) hst rfl
theorem pd_tuple (hg : Gl X "tuple") (hm : X.mg "tuple" = none) (ha : PE X a (tO G da)) : PE X (.Call (.Name "tuple" ps) [a] [] pos) (tD G (dPrim .tuple (dCons da dNil))) :=
  pd_fnT fs_tuple hg hm (by decide +kernel) (pao_cons ha pao_nil hst) (by decide) (by decide) hst rfl
theorem pd_list (hg : Gl X "list") (hm : X.mg "list" = none) (ha : PE X a (tO G da)) : PE X (.Call (.Name "list" ps) [a] [] pos) (tD G (dPrim .list (dCons da dNil))) :=
  pd_fnT fs_list hg hm (by decide +kernel) (pao_cons ha pao_nil hst) (by decide) (by decide) hst rfl
theorem pd_int1 (hg : Gl X "int") (hm : X.mg "int" = none) (ha : PE X a (tO G da)) : PE X (.Call (.Name "int" ps) [a] [] pos) (tD G (dPrim .int (dCons da dNil))) :=
  pd_fnT fs_int hg hm (by decide +kernel) (pao_cons ha pao_nil hst) (by decide) (by decide) hst rfl
theorem pd_sorted (hu : X.A.units + 64 < cLine) (hg : Gl X "sorted") (hm : X.mg "sorted" = none) (ha : PE X a (tO G da)) : PE X (.Call (.Name "sorted" ps) [a] [] pos) (tD G (dPrim .sorted (dCons da dNil))) :=
  pd_fnB (fs_srt hu) hg hm (by decide +kernel) (pao_cons ha pao_nil hst) (by decide) (by decide) hst rfl
end
section
variable (hst : starEach [a, b] X.env = (false, eval a X.env) :: starEach [b] X.env) (hst2 : starEach [b] X.env = (false, eval b X.env) :: starEach [] X.env) (hpl : (backTo pos (starEach [b] X.env)).any (·.1) = false)
include hst hst2 hpl
theorem pd_max2 (hc : X.calm = true) (hg : Gl X "max") (hm : X.mg "max" = none) (ha : PE X a (tO G da)) (hb : PE X b (tO G db)) : PE X (.Call (.Name "max" ps) [a, b] [] pos) (tD G (dPrim .max2 (dCons da (dCons db dNil)))) :=
  pd_fnB (fs_max2 hc) hg hm (by decide +kernel) (pao_cons ha (pao_cons hb pao_nil hst2) hst) (by decide) (by decide) hst hpl
theorem pd_min2 (hc : X.calm = true) (hg : Gl X "min") (hm : X.mg "min" = none) (ha : PE X a (tO G da)) (hb : PE X b (tO G db)) : PE X (.Call (.Name "min" ps) [a, b] [] pos) (tD G (dPrim .min2 (dCons da (dCons db dNil)))) :=
  pd_fnB (fs_min2 hc) hg hm (by decide +kernel) (pao_cons ha (pao_cons hb pao_nil hst2) hst) (by decide) (by decide) hst hpl
end
/-! ### module constants -/
theorem pd_globI {x : Str} {i : Int} (hg : Gl X x) (hm : ∃ t, X.mg x = some (.int i t)) (hd : (x == ("__debug__" : Str)) = false) : PE X (.Name x pos) (tD G (dC (.int i))) := by
  obtain ⟨t, hm⟩ := hm
  exact pd_glob hg hm (v := .int i) ⟨_, rfl⟩ (fun _ => .int i) hd
theorem pd_globS {x : Str} {i : Str} (hg : Gl X x) (hm : ∃ t, X.mg x = some (.str i t)) (hd : (x == ("__debug__" : Str)) = false) : PE X (.Name x pos) (tD G (dC (.str i))) := by
  obtain ⟨t, hm⟩ := hm
  exact pd_glob hg hm (v := .str i) ⟨_, rfl⟩ (fun _ => .str i) hd
/-! ### a comprehension into a name -/
theorem psd_setLcE {ifs : List Expr} {cond : Option Ex} {scope : Scope} {t : Tg} {own : List (Str × Nat)} {i : Nat} {y : Str} {py spos : Pos} (hc : X.calm = true) (hN : X.N.Nodup) (hi : PI X tg iter (tI G false src)) (ok : BlkOk X.N X.env.scope scope own)
    (hg : ∀ (s : Shared) (H : Hp) (C : Addr) (cl : List (Str × Addr)) (fp : List Addr), PG (X.blk s H scope (compEnvC scope cl C X.env) fp) tg (tG t))
    (ht : ∀ (s : Shared) (H : Hp) (C : Addr) (cl : List (Str × Addr)) (fp : List Addr), PTs (X.blk s H scope (compEnvC scope cl C X.env) fp) ifs (tCond (G.blk (own.map (·.2))) cond))
    (he : ∀ (s : Shared) (H : Hp) (C : Addr) (cl : List (Str × Addr)) (fp : List Addr), PE (X.blk s H scope (compEnvC scope cl C X.env) fp) elt (tD (G.blk (own.map (·.2))) de))
    (hs : ∀ x, foldedSetIterable iter X.env x = pure x) (hsl : ∀ i ∈ slotsT t, i ∈ own.map (·.2))
    (hy : X.N[i]? = some y) (hyl : X.env.scope.names.lookup y = some .local) (hsw : swapsWith (.ListComp elt [⟨tg, iter, ifs, 0⟩] scope pos) (some (.Name y py)) spos.line X.env = pure true) :
    PS X (.Assign [.Name y py] (.ListComp elt [⟨tg, iter, ifs, 0⟩] scope pos) spos) (tS G (sAsg i (dComp src t cond de (own.map (·.2))))) := psd_setLc hc hN hi ok hg ht he hs hsl hy hyl hsw
/-! ### with checks by computing -/
theorem notM {M is : List Nat} (h : is.all (fun i => !M.contains i) = true) : ∀ i ∈ is, M.contains i = false := fun i hi => by
  have := List.all_eq_true.mp h i hi
  simpa using this
theorem inL {is js : List Nat} (h : is.all (fun i => js.contains i) = true) : ∀ i ∈ is, i ∈ js := fun i hi => by
  have := List.all_eq_true.mp h i hi
  simpa using this
end
/-! ### a law's end -/
theorem all_ok2 {P : Program} {w : World} {K : PySem.W.Frag} {mg : Str → Option Value} {base : Heap} {C : Addr} {ec : Nat → Option Value} {L : List (Nat × Df)} (hF : AllD (fun d => ∃ (f : Addr) (fd : FuncData), mg d.x = some (.ref f) ∧ FunD K d.x d.x (defArgs d.st) (defBody d.st) (defScope d.st) [] [] f fd ∧ Binds K fd d.ps []) L)
    (hS : AllD (fun d => FnScope d.N d.ps (defScope d.st) ∧ d.ps.length ≤ d.N.length ∧ ∀ i, i < d.ps.length → d.M.contains i = false) L)
    (hB : ∀ (c : Cf) (k : Nat), (∀ (j : Nat) (e : Df), L.lookup j = some e → Callee P w K mg base C ec c k e.x j e.ps.length) → AllD (BodyOk P w K mg base C ec c k) L)
    (n i : Nat) (d : Df) (h : L.lookup i = some d) (f : Addr) (fd : FuncData) (e2 : FunD K d.x d.x (defArgs d.st) (defBody d.st) (defScope d.st) [] [] f fd) : FnOk P w K mg base (L2.CX P w) n f fd d.ps (spOf K C ec (run (tbOf L) n) i d.ps.length) := by
  cases n with
  | zero =>
    refine ⟨fun vs H Q E q => ?_, fun A outer s H args us vs Q E _ _ _ _ q => ?_⟩
    · obtain ⟨_, _, _, _, _, _, hl, _⟩ := q; exact hl
    · obtain ⟨_, _, _, _, _, _, _, _, _, _, hr, _⟩ := q; cases hr
  | succ n =>
    obtain ⟨s1, s2, s3⟩ := hS.at_ h
    have b := (hB _ n (all_ok hF hS hB n)).at_ h
    refine fn_ok (c := run (tbOf L) n) e2 s1 rfl rfl s2 s3 (fun ds w0 x w' hr => ?_) (fun cdv A outer s H E A0 F0 hr => b f cdv A outer s H E A0 F0 hr)
    have ht : tbOf L i = some ⟨d.ps.length, d.N.length, d.body⟩ := by unfold tbOf; rw [h]; rfl
    unfold run at hr
    rw [ht] at hr
    simp only at hr
    split at hr
    · rename_i hq; exact ⟨hq.1, hr⟩
    · cases hr
/-- what the law's def gives, of every script -/
theorem law_end {L : List (Nat × Df)} {n i : Nat} {K : PySem.W.Frag} {C : Addr} {ec : Nat → Option Value} (h : ∀ ns : List Int, ns.length ≤ 63 → ∃ w', run (tbOf L) n i [dScript ns] [] = some (.val (.bool true), w')) :
    ∀ (H : Hp) (a : Addr) (ns : List Int), ns.length ≤ 63 → Only H → SqL K H a (ns.map V.int) → spOf K C ec (run (tbOf L) n) i 1 [.ref a] H (fun v _ => v = .bl true) fun _ _ _ => False := by
  intro H a ns hl _ hS
  obtain ⟨w', e⟩ := h ns hl
  refine ⟨[], H, [dScript ns], [], .val (.bool true), w', rfl, .cons (.inr (.inr (.inl ⟨a, ns, rfl, rfl, hS⟩))) .nil, fun _ _ e => e, ⟨rfl, .nil, fun i a fs h => by simp at h⟩, e, fun v A' F' H' _ _ r => ?_⟩
  rcases r with r | ⟨_, _, e, _⟩ | ⟨_, _, e, _⟩ | ⟨_, _, e, _⟩
  · cases r; rfl
  · cases e
  · cases e
  · cases e
end Rx

set_option Elab.async false
set_option linter.all false
set_option maxRecDepth 100000
set_option maxHeartbeats 1000000
set_option autoImplicit false
namespace Rx
open PySem L2
theorem Up.mono {F F' : Hp} {is : List Nat} {σ σ' : St} {r r' : Env} (u : Up F is σ r σ' r') (s : Same F F') : Up F' is σ r σ' r' :=
  ⟨u.l1, u.l2, fun i => by
    rcases u.at_ i with h | ⟨h1, v, d, h2, h3, h4⟩
    · exact .inl h
    · exact .inr ⟨h1, v, d, h2, h3, h4.mono s⟩⟩
section
variable {G : Cg} {src src2 : Exs} {tg tg2 : Tg} {elt : Ex} {own own2 : List Nat} {σ : St} {H : Hp} {Q : VK}
/-- two fors: the first one's items, for each the second one's -/
theorem lc2_read (hsl : ∀ i ∈ slotsT tg, i ∈ own) (hsl2 : ∀ i ∈ slotsT tg2, i ∈ own2) (h2o : ∀ i ∈ own2, i ∈ own) (h : tF G (dComp2 src tg src2 tg2 elt own own2) σ H Q) :
    tLc2 (tI G false src) (tG tg) (tCond (G.blk own) none) (tI (G.blk own) true src2) (tG tg2) (tCond (G.blk own) none) (tD (G.blk own) elt) own own2 σ H Q := by
  obtain ⟨A, F, r, w, x, w', rel, e, post⟩ := h
  unfold dComp2 at e
  cases h1 : src G.c r w with
  | none => rw [h1] at e; cases e
  | some pr =>
    obtain ⟨x1, w1⟩ := pr
    rw [h1] at e
    cases x1 with
    | exc y => cases e; exact ⟨A, F, r, w, .exc y, _, rel, h1, post⟩
    | vals xs =>
      simp only at e
      cases h2 : compGo G.c (wipeR r own) tg none (inner src2 tg2 elt own2) xs w1 with
      | none => rw [h2] at e; cases e
      | some pr =>
        obtain ⟨ys, w2⟩ := pr
        rw [h2] at e
        simp only at e
        split at e
        · rename_i hlen
          cases e
          refine ⟨A, F, r, w, .vals xs, w1, rel, h1, fun J A1 F1 H1 s1 o1 hit => fun Dd hD => ?_⟩
          rw [if_neg (by decide)] at hit
          have fD : F1 Dd = none := s1.fh.free hD
          refine ⟨fun i m Hc => m = xs.length - i ∧ i ≤ xs.length ∧ ∃ Ac Fc wc acc dacc rest, Step A1 F1 H1 Ac Fc Hc ∧ Omg G.C Ac Fc Hc wc ∧ Hc Dd = some (.lst acc) ∧ Fc Dd = none ∧ RpAll Fc acc dacc ∧ compGo G.c (wipeR r own) tg none (inner src2 tg2 elt own2) (xs.drop i) wc = some (rest, w') ∧ dacc ++ rest = ys,
            ⟨xs.length, by simp, Nat.zero_le _, A1, F1, w1, [], [], ys, .newO s1.fh hD, o1.new (.newO s1.fh hD) (keep_new hD), upd_same, fD, .nil, by rw [List.drop_zero]; exact h2, by simp⟩, ?_⟩
          rintro i m Hc ⟨rfl, hi, Ac, Fc, wc, acc, dacc, rest, sc, oc, hDc, fDc, rc, gc, ec⟩
          by_cases hlt : i < xs.length
          · have hdrop : xs.drop i = xs[i] :: xs.drop (i + 1) := List.drop_eq_getElem_cons hlt
            rw [hdrop] at gc
            unfold compGo at gc
            cases hb : bindT tg xs[i] (wipeR r own) with
            | none => rw [hb] at gc; cases gc
            | some r1 =>
              rw [hb] at gc
              simp only at gc
              refine .inr ⟨hit.go Ac Fc Hc i sc hlt, fun H' => (i + 1 ≤ xs.length ∧ ∃ Ac Fc wc acc dacc rest, Step A1 F1 H1 Ac Fc H' ∧ Omg G.C Ac Fc H' wc ∧ H' Dd = some (.lst acc) ∧ Fc Dd = none ∧ RpAll Fc acc dacc ∧ compGo G.c (wipeR r own) tg none (inner src2 tg2 elt own2) (xs.drop (i + 1)) wc = some (rest, w') ∧ dacc ++ rest = ys), fun H' hn => ⟨xs.length - (i + 1), by omega, rfl, hn⟩, fun v H3 hy => ?_⟩
              obtain ⟨F3, d, s3, k3, ed, rv⟩ := hit.yld Ac Fc Hc i v H3 sc hlt hy
              have : d = xs[i] := by rw [List.getElem?_eq_getElem hlt] at ed; exact (Option.some.inj ed).symm
              subst this
              have sc3 := sc.trans s3
              have o3 := oc.new s3 k3
              have rel3 := ((rel.step (s1.trans sc3) o3).wipeM own)
              refine ⟨F3, xs[i], wipeR r own, r1, rv, s3.fh, rel3.len, hb, fun σ2 u2 => ⟨by rw [u2.wipe hsl, wipe_wipe], ?_⟩⟩
              have hD3 : H3 Dd = some (.lst acc) := k3 _ _ hDc
              have fD3 : F3 Dd = none := by rw [s3.old _ _ hDc]; exact fDc
              show tI (G.blk own) true src2 σ2 H3 _
              -- what the inner for gives
              cases hs2 : src2 G.c r1 wc with
              | none => rw [show inner src2 tg2 elt own2 G.c r1 wc = none by unfold inner; rw [hs2]] at gc; cases gc
              | some pr2 =>
                obtain ⟨x2, w4⟩ := pr2
                cases x2 with
                | exc y => rw [show inner src2 tg2 elt own2 G.c r1 wc = none by unfold inner; rw [hs2]] at gc; cases gc
                | vals xs2 =>
                  have hin : inner src2 tg2 elt own2 G.c r1 wc = compGo G.c (wipeR r1 own2) tg2 none (one elt) xs2 w4 := by unfold inner; rw [hs2]
                  rw [hin] at gc
                  cases hc2 : compGo G.c (wipeR r1 own2) tg2 none (one elt) xs2 w4 with
                  | none => rw [hc2] at gc; cases gc
                  | some pr3 =>
                    obtain ⟨ys1, w5⟩ := pr3
                    rw [hc2] at gc
                    simp only at gc
                    rw [Option.map_eq_some_iff] at gc
                    obtain ⟨⟨zs, w6⟩, gc1, gc2⟩ := gc
                    simp only [Prod.mk.injEq] at gc2
                    obtain ⟨hr, hw⟩ := gc2
                    subst hw
                    have rel4 : Rel G.K G.C (mOut G.M own) Ac F3 H3 σ2 r1 wc := u2.rel rel3 fun j hj => mOut_not (hsl j hj)
                    refine ⟨Ac, F3, r1, wc, .vals xs2, w4, rel4, hs2, fun J1 A4 F4 H4 s4 o4 hit1 => ?_⟩
                    rw [if_pos rfl] at hit1
                    have hD4 : H4 Dd = some (.lst acc) := s4.hh _ _ hD3 rfl
                    have fD4 : F4 Dd = none := by rw [s4.old _ _ hD3]; exact fD3
                    refine ⟨fun j k Hc => k = xs2.length - j ∧ j ≤ xs2.length ∧ ∃ Ac Fc wc acc dacc rest1, Step A1 F1 H1 Ac Fc Hc ∧ Same F4 Fc ∧ Omg G.C Ac Fc Hc wc ∧ Hc Dd = some (.lst acc) ∧ Fc Dd = none ∧ RpAll Fc acc dacc ∧ compGo G.c (wipeR r1 own2) tg2 none (one elt) (xs2.drop j) wc = some (rest1, w5) ∧ dacc ++ rest1 ++ zs = ys,
                      ⟨xs2.length, by simp, Nat.zero_le _, A4, F4, w4, acc, dacc, ys1, sc3.trans s4, .refl _, o4, hD4, fD4, (rc.mono s3.ff).mono s4.ff, by rw [List.drop_zero]; exact hc2, by rw [← ec, ← hr, List.append_assoc]⟩, ?_⟩
                    rintro j k Hj ⟨rfl, hj, Aj, Fj, wj, accj, daccj, restj, sj, mj, oj, hDj, fDj, rj, gj, ej⟩
                    by_cases hlt2 : j < xs2.length
                    · have hdrop2 : xs2.drop j = xs2[j] :: xs2.drop (j + 1) := List.drop_eq_getElem_cons hlt2
                      rw [hdrop2] at gj
                      unfold compGo at gj
                      cases hb2 : bindT tg2 xs2[j] (wipeR r1 own2) with
                      | none => rw [hb2] at gj; cases gj
                      | some r2 =>
                        rw [hb2] at gj
                        simp only at gj
                        refine .inr ⟨hit1.go Fj Hj j mj sj.fh hlt2, fun H' => (j + 1 ≤ xs2.length ∧ ∃ Ac Fc wc acc dacc rest1, Step A1 F1 H1 Ac Fc H' ∧ Same F4 Fc ∧ Omg G.C Ac Fc H' wc ∧ H' Dd = some (.lst acc) ∧ Fc Dd = none ∧ RpAll Fc acc dacc ∧ compGo G.c (wipeR r1 own2) tg2 none (one elt) (xs2.drop (j + 1)) wc = some (rest1, w5) ∧ dacc ++ rest1 ++ zs = ys), fun H' hn => ⟨xs2.length - (j + 1), by omega, rfl, hn⟩, fun v2 H5 hy2 => ?_⟩
                        obtain ⟨F5, d2, s5, k5, ed2, rv2⟩ := hit1.yld Aj Fj Hj j v2 H5 mj sj.fh hlt2 hy2
                        have : d2 = xs2[j] := by rw [List.getElem?_eq_getElem hlt2] at ed2; exact (Option.some.inj ed2).symm
                        subst this
                        have sj5 := sj.trans s5
                        have o5 := oj.new s5 k5
                        have m5 : Same F3 F5 := (s4.ff.trans mj).trans s5.ff
                        have relw := ((rel.step (s1.trans sj5) o5).wipeM own)
                        have rel5 := ((u2.mono m5).rel relw fun j hj => mOut_not (hsl j hj)).wipe own2
                        refine ⟨F5, xs2[j], wipeR r1 own2, r2, rv2, s5.fh, rel5.len, hb2, fun σ3 u3 => ⟨by rw [u3.wipe hsl2, wipe_wipe], ?_⟩⟩
                        have rel6 : Rel G.K G.C (mOut G.M own) Aj F5 H5 σ3 r2 wj := u3.rel rel5 fun j hj => mOut_not (h2o j (hsl2 j hj))
                        have hD5 : H5 Dd = some (.lst accj) := k5 _ _ hDj
                        have fD5 : F5 Dd = none := by rw [s5.old _ _ hDj]; exact fDj
                        show tD (G.blk own) elt σ3 H5 _
                        cases hone : one elt G.c r2 wj with
                        | none => rw [hone] at gj; cases gj
                        | some pr4 =>
                          obtain ⟨ys2, w7⟩ := pr4
                          rw [hone] at gj
                          simp only at gj
                          rw [Option.map_eq_some_iff] at gj
                          obtain ⟨⟨zs2, w8⟩, gj1, gj2⟩ := gj
                          simp only [Prod.mk.injEq] at gj2
                          obtain ⟨hr2, hw2⟩ := gj2
                          subst hw2
                          obtain ⟨dy, rfl, hp, he⟩ := one_some hone
                          refine ⟨Aj, F5, r2, wj, .val dy, w7, rel6, he, fun y A6 F6 H6 s6 o6 r6 => ⟨accj, s6.hh _ _ hD5 rfl, ?_, by omega, A6, F6, w7, accj ++ [y], daccj ++ [dy], zs2, ?_, ?_, ?_, upd_same, ?_, ?_, gj1, ?_⟩⟩
                          · have hl : accj.length < ys.length := by
                              rw [rj.length, ← ej, ← hr2]
                              simp
                            exact Nat.lt_of_lt_of_le hl (zl hlen)
                          · exact (sj5.trans s6).write hD (by rw [s6.old _ _ hD5]; exact fD5)
                          · exact (mj.trans s5.ff).trans s6.ff
                          · exact o6.write (s6.hh _ _ hD5 rfl)
                          · rw [s6.old _ _ hD5]; exact fD5
                          · exact ((rj.mono s5.ff).mono s6.ff).append (.cons (r6.plain hp) .nil)
                          · rw [← ej, ← hr2]; simp
                    · have hj' : j = xs2.length := by omega
                      subst hj'
                      rw [List.drop_length] at gj
                      unfold compGo at gj
                      cases gj
                      refine .inl ⟨hit1.stop Fj Hj _ mj sj.fh (Nat.le_refl _), by omega, Aj, Fj, _, accj, daccj, zs, sj, oj, hDj, fDj, rj, gc1, by rw [← ej]; simp⟩
          · have hi' : i = xs.length := by omega
            subst hi'
            rw [List.drop_length] at gc
            unfold compGo at gc
            cases gc
            refine .inl ⟨hit.stop Ac Fc Hc _ sc (Nat.le_refl _), post (.ref Dd) Ac Fc Hc (s1.trans sc) oc ⟨Dd, acc, ys, rfl, rfl, s1.fresh hD, hDc, fDc, ?_⟩⟩
            rw [← ec, List.append_nil]
            exact rc
        · cases e
end
section
variable {X : Cx} {G : Cg} {tg iter tg2 iter2 elt : Expr} {de : Ex} {src src2 : Exs} {scope : Scope} {t t2 : Tg} {own : List (Str × Nat)} {own2 : List Nat} {pos : Pos}
theorem pd_comp2 (hc : X.calm = true) (hN : X.N.Nodup) (hi : PI X tg iter (tI G false src)) (ok : BlkOk X.N X.env.scope scope own) (hv : ∀ i ∈ own2, i ∈ own.map (·.2))
    (hg : ∀ (s : Shared) (H : Hp) (C : Addr) (cl : List (Str × Addr)) (fp : List Addr), PG (X.blk s H scope (compEnvC scope cl C X.env) fp) tg (tG t))
    (hi2 : ∀ (s : Shared) (H : Hp) (C : Addr) (cl : List (Str × Addr)) (fp : List Addr), PI (X.blk s H scope (compEnvC scope cl C X.env) fp) tg2 iter2 (tI (G.blk (own.map (·.2))) true src2))
    (hg2 : ∀ (s : Shared) (H : Hp) (C : Addr) (cl : List (Str × Addr)) (fp : List Addr), PG (X.blk s H scope (compEnvC scope cl C X.env) fp) tg2 (tG t2))
    (he : ∀ (s : Shared) (H : Hp) (C : Addr) (cl : List (Str × Addr)) (fp : List Addr), PE (X.blk s H scope (compEnvC scope cl C X.env) fp) elt (tD (G.blk (own.map (·.2))) de))
    (hs : ∀ x, foldedSetIterable iter X.env x = pure x) (hs2 : ∀ env x, foldedSetIterable iter2 env x = pure x) (hsl : ∀ i ∈ slotsT t, i ∈ own.map (·.2)) (hsl2 : ∀ i ∈ slotsT t2, i ∈ own2) :
    PE X (.ListComp elt [⟨tg, iter, [], 0⟩, ⟨tg2, iter2, [], 0⟩] scope pos) (tD G (dComp2 src t src2 t2 de (own.map (·.2)) own2)) :=
  peI (pe_lc2 hc hN hi ok hv hg (fun _ _ _ _ _ => pts_cond (.inl ⟨rfl, rfl⟩)) hi2 hg2 (fun _ _ _ _ _ => pts_cond (.inl ⟨rfl, rfl⟩)) he hs hs2) fun σ H Q h => lc2_read hsl hsl2 hv (tD_tF h)
end
end Rx

set_option Elab.async false
set_option linter.all false
set_option maxRecDepth 100000
set_option maxHeartbeats 1000000
set_option autoImplicit false
namespace Rx
open PySem L2
theorem rp_ints {F : Hp} : ∀ {ns : List Int} {vs : List V}, RpAll F vs (ns.map .int) → vs = ns.map V.int
  | [], _, h => by cases h; rfl
  | n :: ns, _, h => by
    cases h with
    | cons a t => cases a; rw [rp_ints t]; rfl
theorem flat_ints (ns : List Int) : (ns.map V.int).all flatV = true := by
  rw [List.all_map]
  exact List.all_eq_true.mpr fun _ _ => rfl
section
variable {X : Cx}
theorem mt_tupIx : MtR X "tuple.index" (fun x xs H Q => ∃ (p : Addr) (ns : List Int) (i : Int) (j : Nat), x = .ref p ∧ xs = [.int i] ∧ SqT X.K H p (ns.map V.int) ∧ ns.findIdx? (· == i) = some j ∧ Q (.int (j : Nat)) H) := by
  rintro pins s σ H x xs v us Q I rx rs ⟨p, ns, i, j, rfl, rfl, sq, fi, q⟩
  cases rx
  obtain ⟨u, rfl, t, rfl⟩ := vals1 rs
  obtain ⟨its, r, ⟨⟨cls, dd, dt, sl⟩, ho, hc, n, hd⟩, hz⟩ := I.tuple sq
  simp only at hc hd
  subst hc hd
  obtain ⟨hj, hit, hno⟩ := List.findIdx?_eq_some_iff_getElem.mp fi
  have size : its.toArray.size = ns.length := by rw [List.size_toArray, ← r.length, List.length_map]
  have item : ∀ (m : Nat) (hm : m < its.toArray.size), ∃ t', its.toArray[m] = Value.int (ns[m]'(by omega)) t' := fun m hm => by
    obtain ⟨y, hy, t', ht⟩ := r.get (i := m) (x := .int (ns[m]'(by omega))) (by simp)
    refine ⟨t', ?_⟩
    rw [← ht, ← (List.getElem?_eq_some_iff.mp hy).2]
    simp
  have hj' : j < its.toArray.size := by omega
  refine call_meets PySem.F.slot_tuple_index ⟨_, ho, rfl⟩ PySem.F.entry_tuple_index (PySem.F.args_tuple_index_2 _ _) (TI.tuple_indexAt p its.toArray n dd sl (.int i t) (eqU (.int i)) j hj' ?_ ?_)
    ⟨ho, fun y hy => mem_eqAt (x := .int i) ⟨t, rfl⟩ rfl r (flat_ints ns) y (by simpa using hy), ⟨.int (j : Nat), H, I.tok _, ⟨_, rfl⟩, q⟩⟩
  · obtain ⟨t', e⟩ := item j hj'
    rw [e]
    have : (ns[j] == i) = true := hit
    show eqU (.int i) (Value.int ns[j] t') = true
    simpa [eqU, eqV] using this
  · intro m hm hmj
    obtain ⟨t', e⟩ := item m hm
    rw [e]
    have : ¬ (ns[m] == i) = true := hno m hmj
    show eqU (.int i) (Value.int (ns[m]'(by omega)) t') = false
    simpa [eqU, eqV] using this
/-- a method of a tuple that is known to be plain -/
theorem pe_tm {o e : Expr} {to : TE} {t : TA} {name : Str} {apos cpos : Pos} {id : String} {r : V → List V → Hp → VK → Prop} (slot : Slot "tuple" name id) (hty : typeOf (.builtin id) = pure (.type "method_descriptor")) (hm : MtR X id r) (ho : PE X o to) (ha : PA X [e] t)
    (hbase : attributeBase o name X.env (eval o X.env) = eval o X.env)
    (hfew : ((backTo cpos (starEach [e] X.env)).all (fun x => !x.1) && (backToKw cpos (keywordEach [] X.env)).all (fun x => x.1.isSome) && decide ([e].length + ([] : List Keyword).length + (if ([] : List Keyword).isEmpty then 0 else 1) < 30)) = true)
    (hline : (apos.endLine == cpos.line) = true) (hs : starEach [e] X.env = (false, eval e X.env) :: starEach [] X.env) :
    PE X (.Call (.Attribute o name apos) [e] [] cpos) (fun σ H Q => to σ H fun x H1 => (∃ (a : Addr) (ob : Obj) (xs : List V), x = .ref a ∧ H1 a = some (.frz ob (.tup xs)) ∧ ob.cls = .type "tuple" ∧ ob.dict = none) ∧ t σ H1 fun xs H2 => r x xs H2 Q) := by
  refine ⟨fun pins s σ H Q I h => wpAny_Call_method_late hbase hfew hline rfl (thn (ho.run pins s σ H _ I h) ?_)⟩
  rintro v s1 ⟨x, H1, I1, r1, ⟨a, ob, xs, rfl, hH, hc, hd⟩, q1⟩
  cases r1
  have there : s1.heap.get? a = some ob := (I1.hok a _ hH).1
  refine ⟨"tuple", id, PySem.F.plainAttrs_tuple, slot, hty, ⟨ob, there, hc⟩, fun b eb => ⟨ob, by cases eb; exact there, hd⟩, ?_⟩
  have run := ha.run cpos pins s1 σ H1 _ I1 q1
  rw [hs] at run ⊢
  exact Calls.callWith_builtin rfl (Calls.evalArgs_plain (thn run fun us s2 ⟨vs, H2, I2, r2, q2⟩ => hm pins s2 σ H2 (.ref a) vs (.ref a) us Q I2 rfl r2 q2))
variable {G : Cg} {a b : Expr} {da db : Ex} {pos apos ps : Pos}
/-- what stands ahead of a method's argument -/
theorem meth_of {p : Pr} {ok : D → Bool} {σ : St} {H : Hp} {Q : VK} (h : tD G (dMeth p ok da db) σ H Q) :
    tO G da σ H fun x H1 => ∃ A F w d, Same F H1 ∧ Omg G.C A F H1 w ∧ Ro G.K A F H1 x d ∧ ok d = true ∧ tO G db σ H1 fun y H2 => ∃ A' F' w' e v, Step A F H1 A' F' H2 ∧ Omg G.C A' F' H2 w' ∧ Ro G.K A' F' H2 x d ∧ Ro G.K A' F' H2 y e ∧ prim p [d, e] = some v ∧ Fin G A' F' H2 w' v Q := by
  obtain ⟨A, F, r, w, x, w', rel, e, post⟩ := h
  unfold dMeth at e
  cases h1 : da G.c r w with
  | none => rw [h1] at e; cases e
  | some pr =>
    obtain ⟨x1, w1⟩ := pr
    rw [h1] at e
    cases x1 with
    | exc y => cases e; exact ⟨A, F, r, w, .exc y, _, rel, h1, post⟩
    | val d =>
      simp only at e
      split at e
      · rename_i hok
        refine ⟨A, F, r, w, .val d, w1, rel, h1, fun v A1 F1 H1 s1 o1 r1 => ⟨A1, F1, w1, d, s1.fh, o1, r1, hok, ?_⟩⟩
        cases h2 : db G.c r w1 with
        | none => rw [h2] at e; cases e
        | some pr =>
          obtain ⟨x2, w2⟩ := pr
          rw [h2] at e
          cases x2 with
          | exc y => cases e; exact ⟨A1, F1, r, w1, .exc y, _, rel.step s1 o1, h2, fun cls dd A2 F2 H2 s2 o2 q => post cls dd A2 F2 H2 (s1.trans s2) o2 q⟩
          | val d2 =>
            simp only at e
            rw [Option.map_eq_some_iff] at e
            obtain ⟨v3, e1, e2⟩ := e
            cases e2
            exact ⟨A1, F1, r, w1, .val d2, _, rel.step s1 o1, h2, fun y A2 F2 H2 s2 o2 r2 => ⟨A2, F2, _, d2, v3, s2, o2, r1.step s2, r2, e1, fun u A3 F3 H3 s3 o3 r3 => post u A3 F3 H3 ((s1.trans s2).trans s3) o3 r3⟩⟩
      · cases e
section
variable (hK : G.K = X.K) (hline : (apos.endLine == pos.line) = true) (hs : starEach [b] X.env = (false, eval b X.env) :: starEach [] X.env)
    (hfew : ((backTo pos (starEach [b] X.env)).all (fun x => !x.1) && (backToKw pos (keywordEach [] X.env)).all (fun x => x.1.isSome) && decide ([b].length + ([] : List Keyword).length + (if ([] : List Keyword).isEmpty then 0 else 1) < 30)) = true)
include hK hline hs hfew
theorem pd_index (hbase : attributeBase a "index" X.env (eval a X.env) = eval a X.env) (ha : PE X a (tO G da)) (hb : PE X b (tO G db)) :
    PE X (.Call (.Attribute a "index" apos) [b] [] pos) (tD G (dMeth .index isX da db)) := by
  refine peI (pe_tm PySem.F.slot_tuple_index PySem.F.type_tuple_index mt_tupIx ha (pa_cons hb pa_nil hs) hbase hfew hline hs) fun σ H Q q => tO_imp (meth_of q) fun x H1 ⟨A, F, w, d, s, o, ro, ok, k⟩ => ?_
  unfold isX at ok
  split at ok
  · rename_i xs
    obtain ⟨a1, ns, rfl, rfl, ob, hf, hc, hd⟩ := ro.xt
    refine ⟨⟨a1, ob, _, rfl, s _ _ hf, hc, hd⟩, tO_imp k fun y H2 ⟨A2, F2, w2, e, v, s2, o2, ro2, ry, ep, fn⟩ => ?_⟩
    replace ep : indexP (.dict [(.bool true, .tuple (ns.map .int))]) e = some v := ep
    cases e with
    | int i =>
      replace ep : ((intsOf (ns.map PyData.int)).bind fun ns => (ns.findIdx? (· == i)).map fun j => PyData.int (j : Nat)) = some v := ep
      rw [intsOf_map, Option.bind_some, Option.map_eq_some_iff] at ep
      obtain ⟨j, ej, rfl⟩ := ep
      exact ⟨a1, ns, i, j, rfl, by rw [ry.int], .inl (.inr ⟨ob, s2.fh _ _ (s2.ff _ _ hf)⟩), ej, fn.same s2.fh o2 (.inl (.int _))⟩
    | _ => cases ep
  · cases ok
theorem pd_count (hbase : attributeBase a "count" X.env (eval a X.env) = eval a X.env) (ha : PE X a (tO G da)) (hb : PE X b (tO G db)) :
    PE X (.Call (.Attribute a "count" apos) [b] [] pos) (tD G (dMeth .count isLst da db)) := by
  refine peI (pe_bm PySem.F.plainAttrs_list PySem.F.slot_list_count PySem.F.type_list_count mt_lcount ha (pa_cons hb pa_nil hs) hbase hfew hline hs rfl) fun σ H Q q => tO_imp (meth_of q) fun x H1 ⟨A, F, w, d, s, o, ro, ok, k⟩ => ?_
  cases d with
  | list ds =>
    obtain ⟨a1, vs, rfl, hl, rp⟩ := ro.lst s
    refine ⟨.inl ⟨rfl, _, .inl (.inl hl)⟩, tO_imp k fun y H2 ⟨A2, F2, w2, e, v, s2, o2, ro2, ry, ep, fn⟩ => ?_⟩
    replace ep : countP (.list ds) e = some v := ep
    cases e with
    | int i =>
      replace ep : ((intsOf ds).map fun ns => PyData.int ((ns.filter (· == i)).length : Nat)) = some v := ep
      rw [Option.map_eq_some_iff] at ep
      obtain ⟨ns, ei, rfl⟩ := ep
      have ed := intsOf_some ei
      subst ed
      obtain ⟨a2, vs2, e2, hl2, rp2⟩ := ro2.lst s2.fh
      cases e2
      have := rp_ints rp2
      subst this
      refine ⟨a1, ns, i, rfl, by rw [ry.int], .inl (.inl hl2), ?_⟩
      have hcnt : ns.count i = (ns.filter (· == i)).length := by rw [List.count, List.countP_eq_length_filter]
      rw [hcnt]
      exact fn.same s2.fh o2 (.inl (.int _))
    | _ => cases ep
  | _ => cases ok
end
/-! ### max of a list, sum of a tuple, tuple(list) -/
theorem maxI_ok : ∀ {ns : List Int} {m : Int}, maxI ns = some m → m ∈ ns ∧ ∀ y ∈ ns, y ≤ m
  | [], _, h => by cases h
  | [x], m, h => by cases h; exact ⟨.head _, fun y hy => by simp at hy; omega⟩
  | x :: z :: r, m, h => by
    unfold maxI at h
    rw [Option.map_eq_some_iff] at h
    obtain ⟨k, h1, h2⟩ := h
    obtain ⟨i1, i2⟩ := maxI_ok h1
    split at h2
    · subst h2
      exact ⟨.tail _ i1, fun y hy => by
        rcases List.mem_cons.mp hy with rfl | hy
        · omega
        · exact i2 y hy⟩
    · subst h2
      exact ⟨.head _, fun y hy => by
        rcases List.mem_cons.mp hy with rfl | hy
        · omega
        · have := i2 y hy; omega⟩
theorem fs_max1 (hc : X.calm = true) : FnS X G (.builtin "max") .max1 := ⟨_, cr_max hc, fun Q vs H k => by
  obtain ⟨A, F, w, v, d1, d, rfl, s, o, r, e, f⟩ := p1_args (f := max1P) rfl k
  cases d1 with
  | list ds =>
    replace e : ((intsOf ds).bind fun ns => (maxI ns).map PyData.int) = some d := e
    rw [Option.bind_eq_some_iff] at e
    obtain ⟨ns, e1, e2⟩ := e
    rw [Option.map_eq_some_iff] at e2
    obtain ⟨m, e2, rfl⟩ := e2
    have ed := intsOf_some e1
    subst ed
    obtain ⟨a, vs, rfl, hl, rp⟩ := r.lst s
    have := rp_ints rp
    subst this
    obtain ⟨i1, i2⟩ := maxI_ok e2
    refine ⟨a, ns, rfl, ?_, List.length_pos_of_mem i1, fun m' h1 h2 => ?_⟩
    · exact .inl (.inl hl)
    · have : m' = m := by have := i2 m' h1; have := h2 m i1; omega
      subst this
      exact f.same s o (.inl (.int _))
  | _ => cases e⟩
theorem call_tupX : CallR X (.type "tuple") (fun xs H Q => ∃ (p : Addr) (ys : List V), xs = [.ref p] ∧ SqL X.K H p ys ∧ ∀ (l : Addr) (ob : Obj), H l = none → ob.cls = .type "tuple" → ob.dict = none → Q (.ref l) (upd H l (.frz ob (.tup ys)))) := by
  rintro pins s σ H xs us Q I r ⟨p, ys, rfl, hq, q⟩
  obtain ⟨u, rfl, rx⟩ := vals1 r
  cases rx
  obtain ⟨its, rv, pl, hz⟩ := I.list hq
  refine call_tuple_list pl.isList (fun h2 keep => ?_) (by rw [List.size_toArray, ← rv.length]; exact hz)
  have J : Inv X pins σ H { s with heap := h2 } := I.kept (t' := s.toks) keep
  have J2 : Inv X pins σ (upd H h2.objs.size (.frz { cls := .type "tuple", data := .seq its.toArray } (.tup ys))) { s with heap := h2.push { cls := .type "tuple", data := .seq its.toArray } } :=
    J.laid (t' := s.toks) (fun b o e => Heap.get?_push_of_some _ e) (Nat.le_refl _) ⟨Heap.get?_push_size _ rfl, hz, its, rv, PyProof.Rows.IsTup.new _ _⟩
  exact ⟨.ref h2.objs.size, _, J2, rfl, q _ _ (J.hok.fresh (Nat.le_refl _)) rfl rfl⟩
theorem fs_tupX : FnS X G (.type "tuple") .tuplex := ⟨_, call_tupX, fun Q vs H k => by
  obtain ⟨A, F, w, v, d1, d, rfl, s, o, r, e, f⟩ := p1_args (f := tupxP) rfl k
  cases d1 with
  | list ds =>
    replace e : (intsOf ds).map dX = some d := e
    rw [Option.map_eq_some_iff] at e
    obtain ⟨ns, e1, rfl⟩ := e
    have ed := intsOf_some e1
    subst ed
    obtain ⟨a, vs, rfl, hl, rp⟩ := r.lst s
    have := rp_ints rp
    subst this
    refine ⟨a, _, rfl, .inl (.inl hl), fun l ob hn hc hd => ?_⟩
    exact f (.ref l) A (upd F l (.frz ob (.tup (ns.map V.int)))) _ (.new s hn) (o.new (.new s hn) (keep_new hn)) (.inr (.inr (.inr ⟨l, ns, rfl, rfl, ob, upd_same, hc, hd⟩)))
  | _ => cases e⟩
theorem pd_tuplex (hst : starEach [a] X.env = (false, eval a X.env) :: starEach [] X.env) (hg : Gl X "tuple") (hm : X.mg "tuple" = none) (ha : PE X a (tO G da)) : PE X (.Call (.Name "tuple" ps) [a] [] pos) (tD G (dPrim .tuplex (dCons da dNil))) :=
  pd_fnT fs_tupX hg hm (by decide +kernel) (pao_cons ha pao_nil hst) (by decide) (by decide) hst rfl
theorem pd_max1 (hst : starEach [a] X.env = (false, eval a X.env) :: starEach [] X.env) (hc : X.calm = true) (hg : Gl X "max") (hm : X.mg "max" = none) (ha : PE X a (tO G da)) : PE X (.Call (.Name "max" ps) [a] [] pos) (tD G (dPrim .max1 (dCons da dNil))) :=
  pd_fnB (fs_max1 hc) hg hm (by decide +kernel) (pao_cons ha pao_nil hst) (by decide) (by decide) hst rfl
/-! ### append and extend, the place ahead -/
theorem psd_appendE {i : Nat} {x : Str} {p2 cpos : Pos} {e : Expr} {de : Ex} (hN : X.N[i]? = some x) (hv : Vis X.env.scope x) (hd : (x == ("__debug__" : Str)) = false) (hcd : (x == ("__classdict__" : Str)) = false) (hM : G.M.contains i = true) (he : PE X e (tD G de)) (hst : starEach [e] X.env = (false, eval e X.env) :: starEach [] X.env) (hline : (apos.endLine == cpos.line) = true) (hs : swapsWith (.Call (.Attribute (.Name x p2) "append" apos) [e] [] cpos) none pos.line X.env = pure false)
    (hfew : ((backTo cpos (starEach [e] X.env)).all (fun x => !x.1) && (backToKw cpos (keywordEach [] X.env)).all (fun x => x.1.isSome) && decide ([e].length + ([] : List Keyword).length + (if ([] : List Keyword).isEmpty then 0 else 1) < 30)) = true) :
    PS X (.Expr (.Call (.Attribute (.Name x p2) "append" apos) [e] [] cpos) pos) (tS G (sAppend i de)) := psd_append hN hv hd hcd hM he hst hline hs hfew
theorem psd_extendE {i : Nat} {x : Str} {p2 cpos : Pos} {e : Expr} {de : Ex} (hN : X.N[i]? = some x) (hv : Vis X.env.scope x) (hd : (x == ("__debug__" : Str)) = false) (hcd : (x == ("__classdict__" : Str)) = false) (hM : G.M.contains i = true) (he : PE X e (tO G de)) (hst : starEach [e] X.env = (false, eval e X.env) :: starEach [] X.env) (hline : (apos.endLine == cpos.line) = true) (hs : swapsWith (.Call (.Attribute (.Name x p2) "extend" apos) [e] [] cpos) none pos.line X.env = pure false)
    (hfew : ((backTo cpos (starEach [e] X.env)).all (fun x => !x.1) && (backToKw cpos (keywordEach [] X.env)).all (fun x => x.1.isSome) && decide ([e].length + ([] : List Keyword).length + (if ([] : List Keyword).isEmpty then 0 else 1) < 30)) = true) :
    PS X (.Expr (.Call (.Attribute (.Name x p2) "extend" apos) [e] [] cpos) pos) (tS G (sExtend i de)) := psd_extend hN hv hd hcd hM he hst hline hs hfew
end
end Rx

set_option Elab.async false
set_option linter.all false
set_option maxRecDepth 100000
set_option maxHeartbeats 1000000
set_option autoImplicit false
namespace Rx
open PySem L2
/-! ### no word -/
section
variable {X : Cx} {G : Cg} {st : Stmt} {sts : List Stmt}
theorem psd_stuck : PS X st (tS G sStuck) := ⟨fun pins s σ H Dd I q => by
  obtain ⟨A, F, r, w, x, w', rs, e, post⟩ := q
  cases e⟩
theorem pssd_stuck : PSs X sts (tS G sStuck) := ⟨fun pins s σ H Dd I q => by
  obtain ⟨A, F, r, w, x, w', rs, e, post⟩ := q
  cases e⟩
end
/-! ### slot i holds the exception a -/
def Pin (i : Nat) (a : Addr) (σ : St) : Prop := σ[i]? = some (some (.ref a))
def tPn (i : Nat) (a : Addr) (t : TE) : TE := fun σ H Q => Pin i a σ ∧ t σ H Q
def tPs (i : Nat) (a : Addr) (t : TA) : TA := fun σ H Q => Pin i a σ ∧ t σ H Q
def tSp (i : Nat) (a : Addr) (G : Cg) (s : Sx) : TS := fun Dd σ H => Pin i a σ ∧ tS G s { Dd with nx := fun σ' H' => Pin i a σ' → Dd.nx σ' H' } σ H
theorem Pin.eq {i : Nat} {a : Addr} {σ : St} (h : Pin i a σ) : σ = σ.set i (some (.ref a)) := by
  refine List.ext_getElem? fun j => ?_
  by_cases hj : i = j
  · subst hj
    obtain ⟨hl, _⟩ := List.getElem?_eq_some_iff.mp h
    rw [List.getElem?_set_self hl]
    exact h
  · rw [List.getElem?_set_ne hj]
theorem Pin.set {i j : Nat} {a : Addr} {σ : St} {u : Option V} (h : Pin i a σ) (hj : j ≠ i) : Pin i a (σ.set j u) := by
  unfold Pin
  rw [List.getElem?_set_ne hj]
  exact h
section
variable {X : Cx} {G : Cg} {i : Nat} {a : Addr} {e e1 e2 : Expr} {es : List Expr} {st : Stmt} {rest : List Stmt} {d1 d2 : Sx} {de da db : Ex} {des : Exs} {pos : Pos}
theorem pp_of (h : PE X e (tD G de)) : PE X e (tPn i a (tD G de)) := peI h fun _ _ _ q => q.2
theorem psp_one (h : PS X st (tSp i a G d1)) : PSs X [st] (tSp i a G d1) := pss_one h
theorem psp_cons (h1 : PS X st (tSp i a G d1)) (h2 : PSs X rest (tSp i a G d2)) : PSs X (st :: rest) (tSp i a G (sSeq d1 d2)) :=
  pssI (pss_cons h1 h2) fun Dd σ H ⟨p, A, F, r, w, x, w', rs, e, post⟩ => by
    unfold sSeq at e
    cases h1 : d1 G.c r w with
    | none => rw [h1] at e; cases e
    | some pr =>
      obtain ⟨x1, w1⟩ := pr
      rw [h1] at e
      refine ⟨p, A, F, r, w, x1, w1, rs, h1, ?_⟩
      cases x1 with
      | ret d => cases e; exact post
      | exc y r1 => cases e; exact post
      | next r1 => exact fun σ1 A1 F1 H1 rs1 k1 p1 => ⟨p1, A1, F1, r1, w1, x, w', rs1, e, post.mono k1⟩
theorem psp_set {j : Nat} {x : Str} {p2 : Pos} (hN : X.N.Nodup) (hi : X.N[j]? = some x) (hx : Loc X.env.scope x) (he : PE X e (tPn i a (tD G de))) (hs : swapsWith e (some (.Name x p2)) pos.line X.env = pure false) (hf : X.fn x = true ∨ X.env.scope.names.lookup x = some .local) (hM : G.M.contains j = false) (hj : j ≠ i) :
    PS X (.Assign [.Name x p2] e pos) (tSp i a G (sAsg j de)) :=
  psI (ps_set hN hi hx he hs hf) fun Dd σ H ⟨p, q⟩ => ⟨p, tD_imp (asgD hM q) fun v H1 h => h (p.set hj)⟩
theorem pps_nil : PA X [] (tPs i a (tDs G dNil)) := paI pa_nil fun _ _ _ h => tDs_nil h.2
theorem pps_cons (he : PE X e (tPn i a (tD G de))) (hs : PA X es (tPs i a (tDs G des))) (hst : starEach (e :: es) X.env = (false, eval e X.env) :: starEach es X.env) : PA X (e :: es) (tPs i a (tDs G (dCons de des))) :=
  paI (pa_cons he hs hst) fun _ _ _ ⟨p, h⟩ => ⟨p, tD_imp (tDs_cons h) fun _ _ q => ⟨p, q⟩⟩
theorem pp_lst (h : PA X es (tPs i a (tDs G des))) : PE X (.List es pos) (tPn i a (tD G (dPrim .lst des))) :=
  peI (pe_lst h) fun σ H Q ⟨p, q⟩ => ⟨p, tDs_imp (prim_argsD q) fun vs H1 ⟨A, F, w, ds, d, s, o, ro, e, f⟩ => by
    replace e : lstP ds = some d := e
    unfold lstP at e
    split at e
    · rename_i hz; cases e
      simp only [Bool.and_eq_true, decide_eq_true_eq] at hz
      have r := ro.plain hz.1
      exact ⟨by rw [r.length]; exact zl hz.2, fun p hp => f.lst s o hp r⟩
    · cases e⟩
theorem pp_bin {op : Operator} {p : Pr} {r : R2} (ho : OpR X (binaryOp op) r) (hp : ∀ Q x y H, Kp G p Q [x, y] H → r x y H Q) (ha : PE X e1 (tO G da)) (hb : PE X e2 (tPn i a (tD G db))) : PE X (.BinOp e1 op e2 pos) (tPn i a (tD G (dPrim p (dCons da (dCons db dNil))))) := by
  have hb2 : PE X e2 (tPn i a (tO G db)) := peI hb fun σ H Q ⟨p, q⟩ => ⟨p, by
    obtain ⟨A, F, r, w, x, w', h1, h2, h3⟩ := q
    refine ⟨A, F, r, w, x, w', h1, h2, ?_⟩
    cases x with
    | val d => exact fun v A' F' H' s o q => h3 v A' F' H' s o (.inl q)
    | exc x => exact h3⟩
  exact peI (pe_op ho ha hb2) fun σ H Q ⟨p0, h⟩ => tO_imp (args2 (prim_args h)) fun x H1 q => ⟨p0, tO_imp q fun y H2 k => hp Q x y H2 k⟩
theorem pp_add (ha : PE X e1 (tO G da)) (hb : PE X e2 (tPn i a (tD G db))) : PE X (.BinOp e1 .Add e2 pos) (tPn i a (tD G (dPrim .add (dCons da (dCons db dNil))))) := by
  refine pp_bin (((op_add.or op_add_str).or op_catA).or op_cat) (fun Q x y H ⟨A, F, w, ds, d, s, o, ro, e, f⟩ => ?_) ha hb
  obtain ⟨d1, d2, rfl, r1, r2⟩ := RoAll2 ro
  replace e : addP d1 d2 = some d := e
  unfold addP at e
  split at e
  · cases e
    exact .inl (.inl (.inl ⟨_, _, r1.int, r2.int, f.same s o (.inl (.int _))⟩))
  · split at e
    · rename_i hz; cases e
      exact .inl (.inl (.inr ⟨_, _, r1.str, r2.str, zl hz, f.same s o (.inl (.str _))⟩))
    · cases e
  · split at e
    · rename_i hz; cases e
      obtain ⟨a1, v1, rfl, f1, q1⟩ := r1.tup
      obtain ⟨a2, v2, rfl, f2, q2⟩ := r2.tup
      refine .inl (.inr ⟨a1, a2, v1, v2, rfl, rfl, .inl (.inl (s _ _ f1)), .inl (.inl (s _ _ f2)), by rw [q1.length, q2.length]; exact zl hz, fun z => ?_, fun _ z => ?_, fun _ _ p hp => f.tup s o hp (q1.append q2)⟩)
      · subst z; cases q1; exact f.same s o (.inl (.tup f2 q2))
      · subst z; cases q2; rw [List.append_nil] at f; exact f.same s o (.inl (.tup f1 q1))
    · cases e
  · split at e
    · rename_i hz; cases e
      obtain ⟨a1, v1, rfl, f1, q1⟩ := r1.lst s
      obtain ⟨a2, v2, rfl, f2, q2⟩ := r2.lst s
      exact .inr ⟨a1, a2, v1, v2, rfl, rfl, f1, f2, by rw [q1.length, q2.length]; exact zl hz, fun p hp => f.lst s o hp (q1.append q2)⟩
    · cases e
  · cases e
/-- isinstance(n, y): n the exception, y one of the classes -/
theorem pp_isi {oe : Obj} {pn : List (Addr × Obj)} {C : Addr} {xs : List (Nat × Str)} {x : Xn} {k2 : Nat} {n y : Str} {q1 q2 q3 q4 : Pos} (xa : XAll X.K X.mg G.ec xs) (hx : G.ec x.cls = some (.ref C)) (hz : Zc (.ref C) none oe) (hfd : ∃ vs, oe.data = .fields vs)
    (hy : xs.lookup k2 = some y) (gy : X.env.kindOf y = some .globalImplicit) (gi : X.env.kindOf "isinstance" = some .globalImplicit) (mi : X.mg "isinstance" = none)
    (hi : X.N[i]? = some n) (hv : Vis X.env.scope n) (hd : (n == ("__debug__" : Str)) = false) (hcd : (n == ("__classdict__" : Str)) = false) (dy : (y == ("__debug__" : Str)) = false) :
    PE (X.suite a ((a, oe) :: pn)) (.Call (.Name "isinstance" q1) [.Name n q2, .Name y q3] [] q4) (tPn i a (tD G (dC (.bool (subX x.cls k2))))) := by
  obtain ⟨Cy, _, b2, _⟩ := xa.at_ k2 y hy
  obtain ⟨_, D, e, ed, h⟩ := xa.inv _ _ hx
  cases e
  refine peI (ptk_isi (G := G) ed hz hfd (h k2 y _ hy b2).2 hi hv hd hcd gi mi gy b2 (cv := .ref Cy) rfl (fun _ e => e) dy) fun σ H Q ⟨p, q⟩ => ⟨⟨σ, p.eq⟩, ?_⟩
  obtain ⟨A, F, r, w, x, w', rel, e, post⟩ := q
  cases e
  exact post (.bl _) A F H (.refl rel.fh) rel.om (.inl (.bl _))
end
/-! ### try, one clause whose suite goes on -/
theorem Step.base {A0 A A' : List Addr} {F0 F F' H0 H H' : Hp} (a : Step A0 F0 H0 A F H) (b : Step A0 F H0 A' F' H') : Step A0 F0 H0 A' F' H' :=
  ⟨b.ext, a.ff.trans b.ff, b.fh, b.hh, b.ins, fun p o e => (b.old p o e).trans (a.old p o e)⟩
theorem Step.self {A0 A : List Addr} {F0 F H0 H : Hp} (a : Step A0 F0 H0 A F H) : Step A0 F H0 A F H := ⟨a.ext, .refl _, a.fh, a.hh, a.ins, fun _ _ _ => rfl⟩
theorem RelS.hide {G : Cg} {A : List Addr} {F H : Hp} {σ : St} {r : Env} {w : Om} {i : Nat} {u : Option V} (rs : RelS G A F H σ r w) : RelS G A F H (σ.set i u) (r.set i none) w := by
  have old : ∀ j e, (r.set i none)[j]? = some (some e) → (σ.set i u)[j]? = σ[j]? ∧ r[j]? = some (some e) := fun j e h => by
    by_cases hj : i = j
    · subst hj
      by_cases hl : i < r.length
      · rw [List.getElem?_set_self hl] at h; cases h
      · rw [List.getElem?_eq_none (by rw [List.length_set]; omega)] at h; cases h
    · rw [List.getElem?_set_ne hj] at h
      exact ⟨List.getElem?_set_ne hj, h⟩
  refine ⟨⟨rs.rel.fh, rs.rel.om, by rw [List.length_set, List.length_set]; exact rs.rel.len, fun j e h o => ?_, fun j e h o => ?_, fun j k e f p hjk h1 h2 o1 o2 h3 => ?_⟩, rs.ent, fun j e p h o hp => ?_⟩
  · obtain ⟨e1, e2⟩ := old j e h
    rw [e1]; exact rs.rel.fro j e e2 o
  · obtain ⟨e1, e2⟩ := old j e h
    rw [e1]; exact rs.rel.own j e e2 o
  · obtain ⟨e1, e2⟩ := old j e h1
    obtain ⟨f1, f2⟩ := old k f h2
    rw [e1] at h3; rw [f1]
    exact rs.rel.dis j k e f p hjk e2 f2 o1 o2 h3
  · obtain ⟨e1, e2⟩ := old j e h
    rw [e1] at hp
    exact rs.new j e p e2 o hp
section
variable {X : Cx} {G : Cg} {body suite : List Stmt} {b0 : Stmt} {pos np pos' : Pos} {db : Sx} {dsu : Xn → Sx} {k i : Nat} {n cn : Str} {xs : List (Nat × Str)}
theorem psd_tryE (hs : X.stack = X.env :: X.outer) (hf : X.env.frame = some X.env.locals) (hN : X.N.Nodup) (tk : Takes X G.W) (hi : X.N[i]? = some n) (hln : X.env.kindOf n = some .local) (xa : XAll X.K X.mg G.ec xs) (hx : xs.lookup k = some cn) (gx : Gl X cn) (dx : (cn == ("__debug__" : Str)) = false)
    (hb : ∀ (W : WX) (F0 : Hp) (pn : List (Addr × Obj)) (xe : Value → Shared → Prop), Takes (X.tr pn xe) W → PassesOwn (model X.prog X.w) X.A X.env xe → PSs (X.tr pn xe) body (tS { G with W := W, F0 := F0 } db))
    (hsu : ∀ (a : Addr) (oe : Obj) (C : Addr) (pn : List (Addr × Obj)) (x : Xn), G.ec x.cls = some (.ref C) → Zc (.ref C) none oe → (∃ vs, oe.data = .fields vs) → PSs (X.suite a ((a, oe) :: pn)) (b0 :: suite) (tSp i a G (dsu x))) :
    PS X (.Try body [.ExceptHandler (some (.Name cn np)) (some n) (b0 :: suite) pos'] [] [] pos) (tS G (sTryE db k i dsu)) := by
  obtain ⟨C0, a1, a2, _⟩ := xa.at_ k cn hx
  refine psI (ps_try_as (c := .ref C0) (i := i) (ts := fun a cls d Dd σ H => ∃ x C, cls = .ref C ∧ d = none ∧ G.ec x.cls = some (.ref C) ∧ tSp i a G (dsu x) Dd σ H) hs hf hN hi hln ⟨gx, dx, .inl a2⟩ tk
    (tb := fun W => fun Dd σ H => ∃ F0, tS { G with W := W, F0 := F0 } db Dd σ H) (fun W pn xe t1 t2 => ⟨fun pins s σ H Dd I ⟨F0, q⟩ => (hb W F0 pn xe t1 t2).run pins s σ H Dd I q⟩)
    (fun a oe cls d pn hz hfd => ⟨fun pins s σ H Dd I ⟨x, C, e1, e2, e3, q⟩ => by subst e1 e2; exact (hsu a oe C pn x e3 hz hfd).run pins s σ H Dd I q⟩)) fun Dd σ H ⟨A, F, r, w, x, w', rs, e, post⟩ => ?_
  unfold sTryE at e
  refine ⟨F, A, F, r, w, ?_⟩
  generalize hq : db G.c r w = q at e
  cases q with
  | none => cases e
  | some pr =>
    obtain ⟨o, w1⟩ := pr
    refine ⟨o, w1, ⟨rs.rel, rs.ent.self, rs.new⟩, by first | rfl | exact hq, ?_⟩
    cases o with
    | next r1 =>
      cases e
      exact fun σ' A' F' H' q s => post σ' A' F' H' ⟨q.rel, rs.ent.base q.ent, q.new⟩ s
    | ret d =>
      cases e
      exact fun v A' F' H' q o rt => post v A' F' H' (rs.ent.base q) o rt
    | exc y r1 =>
      intro cls dd σ1 A1 F1 H1 q xr
      have ff : Same F F1 := q.ent.ff
      have rs1 : RelS G A1 F1 H1 σ1 r1 w1 := ⟨q.rel, rs.ent.base q.ent, q.new⟩
      obtain ⟨n1, D, rfl, ed, hh⟩ := xa.inv _ cls xr.1
      have hdd : dd = none := by
        rcases xr.2 with z | z
        · exact z.2
        · exact absurd z.1 n1
      subst hdd
      refine ⟨subX y.cls k, (hh k cn _ hx a2).1, fun hb a na => ?_, fun hb => ?_⟩
      · simp only [hb] at e
        simp only [if_true] at e
        split at e
        · rename_i hlt
          split at e
          · rename_i r2 w2 hsu2
            cases e
            refine ⟨y, D, rfl, rfl, xr.1, ?_, A1, F1, _, w1, _, w', rs1.hide, hsu2, ?_⟩
            · unfold Pin
              rw [List.getElem?_set_self (by rw [rs1.rel.len]; exact hlt)]
            · intro σ2 A2 F2 H2 rs2 k2 _
              exact post _ A2 F2 H2 rs2.hide (ff.trans k2)
          · cases e
        · cases e
      · simp only [hb] at e
        rw [if_neg (by decide)] at e
        cases e
        exact post _ none σ1 A1 F1 H1 rs1 xr
end
end Rx

set_option Elab.async false
set_option linter.all false
set_option maxRecDepth 100000
set_option maxHeartbeats 4000000
set_option autoImplicit false
namespace Rx
open PySem L2 PySem.Spec
open PyProof.Rows (IntsAre)
/-! ### sorted(set(xs)), xs a list of ints -/
abbrev emptySet (w : World) : Obj := { cls := .type "set", dict := none, data := .set #[] 0 (.fresh 0 0 (!w.params.followText "set-order")) }
section
variable {P : Program} {w : World} {A : Around} {E : Value → Shared → Prop} {s : Shared}
/-- what set(xs) leaves: the ints of xs -/
def SetLeft (w : World) (s : Shared) (ns : List Int) (h' : Heap) (c : Nat) : Prop :=
  SetR w h' s.heap.objs.size (fun j => decide (j ∈ ns)) c ∧ c ≤ ns.length ∧ ∀ b o, s.heap.get? b = some o → h'.get? b = some o
theorem set_ints_loop {l : Addr} {xs : Array Value} {ns : List Int} {Q : Result → Shared → Prop} (hh : A.handled = none) (hl : s.heap.IsList l xs) (hi : IntsAre xs.toList ns) (hb : ns.length + 1 < scanBound)
    (hq : ∀ h' tk c, SetLeft w s ns h' c → Q (.ok (.ret .none)) { s with heap := h', toks := tk }) :
    codeAny (model P w) A (.builtin "set.update.loop" ⟨[.ref s.heap.objs.size, .ref (s.heap.push (emptySet w)).objs.size], []⟩) Q
      { s with heap := (s.heap.push (emptySet w)).push { cls := .type "list_iterator", data := .fields #[.ref l, .int 0 0] } } := by
  have sz : xs.size = ns.length := (Array.length_toList).symm.trans hi.length
  obtain ⟨ol, hol, _⟩ := id hl
  have below : l < s.heap.objs.size := Heap.lt_size hol
  have next : (s.heap.push (emptySet w)).objs.size = s.heap.objs.size + 1 := Heap.size_push _ _
  have apart : l ≠ (s.heap.push (emptySet w)).objs.size := by rw [next]; exact Nat.ne_of_lt (Nat.lt_succ_of_lt below)
  have out : s.heap.objs.size ∉ [(s.heap.push (emptySet w)).objs.size, l] := by
    rw [next]
    intro m
    rcases List.mem_cons.mp m with z | z
    · exact absurd z (Nat.ne_of_lt (Nat.lt_succ_self _))
    · exact absurd (List.mem_singleton.mp z) (Nat.ne_of_gt below)
  have vals : ∀ (i : Nat) (v : Value), xs[i]? = some v → ∃ k t, ns[i]? = some k ∧ v = .int k t := fun i v hv => by
    have lt : i < ns.length := sz ▸ (Array.getElem?_eq_some_iff.mp hv).1
    obtain ⟨t, rfl⟩ := hi.int_at i v (by rw [Array.getElem?_toList]; exact hv)
    exact ⟨ns[i], t, List.getElem?_eq_getElem lt, by rw [List.getD_eq_getElem?_getD, List.getElem?_eq_getElem lt]; rfl⟩
  have there : (s.heap.push (emptySet w)).get? s.heap.objs.size = some (emptySet w) := Heap.get?_push_size _ rfl
  refine set_update_ints ((Walks.list (show A.in1.handled = none by simp [hh]) _ l apart xs).toS) _ out ns sz hb vals (xs.size - 0) 0 _ rfl (Nat.zero_le _) ⟨⟨_, Heap.get?_push_size _ rfl, rfl, rfl⟩, (hl.push _).push _⟩
    ⟨0, Nat.le_refl 0, setR_new_at (Heap.get?_push_of_some _ there)⟩ fun s' c m hc R => ?_
  obtain ⟨h', g', d', tk', os'⟩ := s'
  have e1 : g' = s.gens := m.gens
  have e2 : d' = s.drawn := m.drawn
  have e3 : os' = s.os := m.os
  subst e1 e2 e3
  refine hq h' tk' c ⟨R, sz ▸ hc, fun b o e => ?_⟩
  have lt := Heap.lt_size e
  refine m.heap b o (fun z => ?_) (Heap.get?_push_of_some _ (Heap.get?_push_of_some _ e))
  rcases List.mem_cons.mp z with y | y
  · exact absurd y (Nat.ne_of_lt lt)
  · have q := List.mem_singleton.mp y
    rw [next] at q
    exact absurd q (Nat.ne_of_lt (Nat.lt_succ_of_lt lt))
theorem set_ints {l : Addr} {xs : Array Value} {ns : List Int} {Q : Value → Shared → Prop} (hh : A.handled = none) (hl : s.heap.IsList l xs) (hi : IntsAre xs.toList ns) (hb : ns.length + 1 < scanBound)
    (hq : ∀ h' tk c, SetLeft w s ns h' c → Q (.ref s.heap.objs.size) { s with heap := h', toks := tk }) : wpAny (model P w) A (call (.type "set") [.ref l]) Q E s := by
  obtain ⟨c0, tl, hmro⟩ := F.called_set.mro
  have f1 := F.called_set.made
  have f2 := F.called_set.sub
  have f3 := F.called_set.notType
  have f4 := F.called_set.canCreate
  have f5 := F.typeCall_set_1 (.ref l)
  refine wpAny_call (codeAny_of_tree (wpAny_pure ⟨Code.quiet_builtin _ (by decide +kernel), codeAny_builtin F.entry_type_call ?_⟩))
  rw [Around.under_plain (weight_type_call_type "set" [.ref l] []) rfl]
  repeat (any_goals (first | assumption | wp_step))
  refine codeAny_mono (code_set_led1 (.ref l) (E := E) (Q₁ := fun v s1 => v = .ref s.heap.objs.size ∧ s1 = { s with heap := s.heap.push (emptySet w) }) ⟨rfl, rfl⟩) fun r s1 hr => ?_
  rcases r with e | fl
  · exact hr
  cases fl with
  | ret v =>
    obtain ⟨rfl, rfl⟩ := hr
    have there : (s.heap.push (emptySet w)).get? s.heap.objs.size = some (emptySet w) := Heap.get?_push_size _ rfl
    have ty : Shared.TypeIs { s with heap := s.heap.push (emptySet w) } (.ref s.heap.objs.size) "set" := ⟨_, there, rfl⟩
    have f6 := F.called_set.init.lookup
    have f7 := F.called_set.init.bind (.ref s.heap.objs.size)
    repeat (any_goals (first | assumption | wp_step))
    refine codeAny_mono (codeAny_call_builtin (R := wants (fun r s2 => r = .none ∧ ∃ h' tk c, s2 = { s with heap := h', toks := tk } ∧ SetLeft w s ns h' c) E) F.called_set.init.plain F.entry_set_init (check_set_init_1 ty ?_)) fun r2 s2 h2 => ?_
    · obtain ⟨⟨oc, od, dt, osl⟩, hol, hc, nl, hd⟩ := id hl
      simp only at hc hd
      subst hc hd
      have hol' : (s.heap.push (emptySet w)).get? l = some { cls := .type "list", dict := od, data := .seq xs nl, slots := osl } := Heap.get?_push_of_some _ hol
      have f8 := F.sub_list_set
      have f9 := F.sub_list_frozenset
      have f10 : (Value.type "list" == Value.type "dict") = false := by decide
      have hl1 : (s.heap.push (emptySet w)).IsList l xs := ⟨_, hol', rfl, nl, rfl⟩
      unfold Builtin.«set.__init__» noKeywords Builtin.Frozenset.updateFrom
      generalize hPI : pyIter = PI
      wp_walk
      subst hPI
      refine wpAny_pyIter_list hl1 (wpAny_bind (wpAny_runValue (set_ints_loop (by simp [hh]) hl hi hb fun h' tk c z => ?_)))
      show wpAny _ _ _ _ _ _
      refine wpAny_pure ?_
      show wpAny _ _ (ret Value.none) _ _ _
      exact wpAny_pure ⟨rfl, h', tk, c, rfl, z⟩
    · rcases r2 with e | fl2
      · exact h2
      cases fl2 with
      | ret r =>
        obtain ⟨rfl, h', tk, c, rfl, z⟩ := h2
        repeat (any_goals (first | assumption | wp_step))
        exact hq _ _ _ z
      | _ => exact h2.elim
  | _ => exact hr.elim
end
section
variable {X : Cx}
def rSetL (K : PySem.W.Frag) (w : World) : List V → Hp → VK → Prop := fun xs H Q => ∃ (l : Addr) (ns : List Int), xs = [.ref l] ∧ SqL K H l (ns.map V.int) ∧ ns.length < 64 ∧ ∀ p c, H p = none → c ≤ ns.length → Q (.ref p) (upd H p (SetO w p (fun k => decide (k ∈ ns)) c))
theorem cr_setL (hc : X.calm = true) : CallR X (.type "set") (rSetL X.K X.w) := by
  intro pins s σ H xs us Q I r h
  obtain ⟨l, ns, rfl, hl, hf, q⟩ := h
  rw [Vals.ref1 r]
  obtain ⟨its, rv, pl, hz⟩ := I.list hl
  have hn : H s.heap.objs.size = none := I.hok.fresh (Nat.le_refl _)
  refine set_ints (P := X.prog) (w := X.w) (ns := ns) (I.ok.hd hc) pl.isList (by simpa using ints_of_vals rv) (by unfold scanBound; omega) fun h' tk c ⟨R, hcn, k⟩ => ?_
  exact ⟨.ref s.heap.objs.size, _, I.laid (t' := tk) k (Nat.le_refl _) (setO_new R), rfl, q _ c hn hcn⟩
theorem CallR.or {f : Value} {r1 r2 : List V → Hp → VK → Prop} (h1 : CallR X f r1) (h2 : CallR X f r2) : CallR X f (fun vs H Q => r1 vs H Q ∨ r2 vs H Q) := fun pins s σ H xs us Q I r h => h.elim (h1 pins s σ H xs us Q I r) (h2 pins s σ H xs us Q I r)
end
/-! ### by a key -/
section
variable {α : Type} {key : α → Int}
theorem insU_mem {x y : α} : ∀ {l : List α}, y ∈ insU key x l → y = x ∨ y ∈ l
  | [], h => by simpa [insU] using h
  | z :: l, h => by
    unfold insU at h
    split at h
    · simpa using h
    · split at h
      · exact .inr h
      · rcases List.mem_cons.mp h with e | e
        · exact .inr (e ▸ .head _)
        · rcases insU_mem e with e | e
          · exact .inl e
          · exact .inr (.tail _ e)
theorem insU_old {x y : α} : ∀ {l : List α}, y ∈ l → y ∈ insU key x l
  | z :: l, h => by
    unfold insU
    split
    · exact .tail _ h
    · split
      · exact h
      · rcases List.mem_cons.mp h with e | e
        · exact e ▸ .head _
        · exact .tail _ (insU_old e)
theorem insU_new {x : α} : ∀ {l : List α}, (∀ b ∈ l, key x = key b → x = b) → x ∈ insU key x l
  | [], _ => .head _
  | z :: l, inj => by
    unfold insU
    split
    · exact .head _
    · split
      · rename_i h; rw [← inj z (.head _) h]; exact .head _
      · exact .tail _ (insU_new fun b hb => inj b (.tail _ hb))
theorem insU_asc {x : α} : ∀ {l : List α}, l.Pairwise (fun a b => key a < key b) → (insU key x l).Pairwise (fun a b => key a < key b)
  | [], _ => by simp [insU]
  | z :: l, h => by
    obtain ⟨h1, h2⟩ := List.pairwise_cons.mp h
    unfold insU
    split
    · rename_i hx
      refine List.pairwise_cons.mpr ⟨fun y hy => ?_, h⟩
      rcases List.mem_cons.mp hy with e | e
      · rw [e]; exact hx
      · exact Int.lt_trans hx (h1 y e)
    · split
      · exact h
      · rename_i n1 n2
        refine List.pairwise_cons.mpr ⟨fun y hy => ?_, insU_asc h2⟩
        rcases insU_mem hy with e | e
        · rw [e]; omega
        · exact h1 y e
theorem usort_asc : ∀ {l : List α}, (usort key l).Pairwise (fun a b => key a < key b)
  | [] => .nil
  | x :: l => insU_asc usort_asc
theorem usort_sub {y : α} : ∀ {l : List α}, y ∈ usort key l → y ∈ l
  | [], h => h
  | x :: l, h => by
    rcases insU_mem h with e | e
    · exact e ▸ .head _
    · exact .tail _ (usort_sub e)
theorem usort_mem {y : α} : ∀ {l : List α}, (∀ a ∈ l, ∀ b ∈ l, key a = key b → a = b) → (y ∈ usort key l ↔ y ∈ l)
  | [], _ => Iff.rfl
  | x :: l, inj => by
    have ih := usort_mem (y := y) (l := l) fun a ha b hb => inj a (.tail _ ha) b (.tail _ hb)
    refine ⟨fun h => ?_, fun h => ?_⟩
    · rcases insU_mem h with e | e
      · exact e ▸ .head _
      · exact .tail _ (ih.mp e)
    · rcases List.mem_cons.mp h with e | e
      · rw [e]; exact insU_new fun b hb => inj x (.head _) b (.tail _ (usort_sub hb))
      · exact insU_old (ih.mpr e)
theorem asc_one : ∀ {l m : List α}, l.Pairwise (fun a b => key a < key b) → m.Pairwise (fun a b => key a < key b) → (∀ x, x ∈ l ↔ x ∈ m) → l = m
  | [], [], _, _, _ => rfl
  | [], y :: m, _, _, h => by have := (h y).mpr (.head _); cases this
  | x :: l, [], _, _, h => by have := (h x).mp (.head _); cases this
  | x :: l, y :: m, hl, hm, h => by
    obtain ⟨l1, l2⟩ := List.pairwise_cons.mp hl
    obtain ⟨m1, m2⟩ := List.pairwise_cons.mp hm
    have e : x = y := by
      rcases List.mem_cons.mp ((h x).mp (.head _)) with e | e
      · exact e
      · rcases List.mem_cons.mp ((h y).mpr (.head _)) with e2 | e2
        · exact e2.symm
        · have a1 := m1 x e
          have a2 := l1 y e2
          omega
    subst e
    rw [asc_one l2 m2 fun z => ⟨fun hz => ?_, fun hz => ?_⟩]
    · rcases List.mem_cons.mp ((h z).mp (.tail _ hz)) with e | e
      · have := l1 z hz; rw [e] at this; omega
      · exact e
    · rcases List.mem_cons.mp ((h z).mpr (.tail _ hz)) with e | e
      · have := m1 z hz; rw [e] at this; omega
      · exact e
end
/-! ### sorted(set(xs)), by data -/
theorem prsOf_some : ∀ {ds : List D} {ps : List (Int × Int)}, prsOf ds = some ps → ds = ps.map dPr
  | [], _, h => by cases h; rfl
  | d :: r, ps, h => by
    unfold prsOf at h
    split at h
    · rename_i e; cases e
    · rename_i a b r' e
      cases e
      rw [Option.map_eq_some_iff] at h
      obtain ⟨qs, h1, rfl⟩ := h
      rw [prsOf_some h1]; rfl
    · cases h
/-- where the pairs of a list stand -/
theorem rp_prs {F : Hp} : ∀ {ps : List (Int × Int)} {vs : List V}, RpAll F vs (ps.map dPr) → ∃ ks : List (Addr × List Int), vs = ks.map (fun p => V.ref p.1) ∧ ks.map (·.2) = ps.map (fun p => [p.1, p.2]) ∧ ∀ k ∈ ks, F k.1 = some (.tup (k.2.map V.int))
  | [], _, h => by cases h; exact ⟨[], rfl, rfl, fun k hk => by cases hk⟩
  | p :: ps, _, h => by
    cases h with
    | cons r t =>
      obtain ⟨ks, rfl, e2, e3⟩ := rp_prs t
      cases r with
      | tup e q =>
        cases q with
        | cons q1 q2 =>
          cases q2 with
          | cons q3 q4 =>
            cases q1; cases q3; cases q4
            rename_i a
            refine ⟨(a, [p.1, p.2]) :: ks, rfl, by simp [e2], fun k hk => ?_⟩
            rcases List.mem_cons.mp hk with z | z
            · rw [z]; exact e
            · exact e3 k z
theorem rp_of_prs {F : Hp} : ∀ {ks : List (Addr × List Int)} {ps : List (Int × Int)}, ks.map (·.2) = ps.map (fun p => [p.1, p.2]) → (∀ k ∈ ks, F k.1 = some (.tup (k.2.map V.int))) → RpAll F (ks.map fun p => V.ref p.1) (ps.map dPr)
  | [], [], _, _ => .nil
  | [], _ :: _, h, _ => by cases h
  | _ :: _, [], h, _ => by cases h
  | k :: ks, p :: ps, h, g => by
    simp only [List.map_cons, List.cons.injEq] at h
    refine .cons ?_ (rp_of_prs h.2 fun z hz => g z (.tail _ hz))
    have e := g k (.head _)
    rw [h.1] at e
    exact .tup e (.cons (.int _) (.cons (.int _) .nil))
theorem rpi_ints (F : Hp) : ∀ ns : List Int, RpAll F (ns.map V.int) (ns.map .int)
  | [] => .nil
  | n :: ns => .cons (.int n) (rpi_ints F ns)
section
variable {X : Cx} {G : Cg} {a : Expr} {da : Ex} {pos p1' p2' p3' : Pos}
theorem pd_sset (hc : X.calm = true) (hK : G.K = X.K) (hu : X.A.units + 64 < cLine) (hg : Gl X "sorted") (hm : X.mg "sorted" = none) (hg2 : Gl X "set") (hm2 : X.mg "set" = none) (ha : PE X a (tO G da)) (hst : starEach [a] X.env = (false, eval a X.env) :: starEach [] X.env)
    (hst2 : starEach [.Call (.Name "set" p2') [a] [] p3'] X.env = (false, eval (.Call (.Name "set" p2') [a] [] p3') X.env) :: starEach [] X.env) :
    PE X (.Call (.Name "sorted" p1') [.Call (.Name "set" p2') [a] [] p3'] [] pos) (tD G (dPrim .sset (dCons da dNil))) := by
  refine peI (pe_callB (CallR.or (cr_sortedSet hc) (cr_sortedT hc)) hg hm (by decide +kernel) (pa_cons (pe_callTy (CallR.or (cr_setL hc) (cr_setOfT hc hu)) hg2 hm2 (by decide +kernel) (pa_cons ha pa_nil hst) (by decide) (by decide) hst rfl) pa_nil hst2) (by decide) (by decide) hst2 rfl)
    fun σ H Q h => tO_imp (args1 (prim_args h)) fun v H1 ⟨A, F, w, ds, d, s, o, ro, e, f⟩ => ?_
  obtain ⟨d1, rfl, r1⟩ := RoAll1 ro
  replace e : ssetP d1 = some d := e
  cases d1 with
  | list ds =>
    obtain ⟨l, vs, rfl, hl, rp⟩ := r1.lst s
    replace e : (match intsOf ds with
      | some ns => if ns.length < 64 then some (PyData.list ((usort id ns).map .int)) else none
      | none => match prsOf ds with
        | some ps => if ps.length < 64 ∧ ps.all prOk = true then some (PyData.list ((usort prKey ps).map dPr)) else none
        | none => none) = some d := e
    split at e
    · rename_i ns hns
      split at e
      · rename_i hlt
        cases e
        have := intsOf_some hns
        subst this
        have := rp_ints rp
        subst this
        refine .inl ⟨l, ns, rfl, .inl (.inl hl), hlt, fun p c hp hcn => .inl ⟨p, _, c, rfl, upd_same, by omega, fun ms q asc mem len hq => ?_⟩⟩
        have hpq : q ≠ p := by
          intro z; subst z; rw [upd_same] at hq; cases hq
        have hq1 : H1 q = none := by rw [upd_ne hpq] at hq; exact hq
        have em : ms = usort id ns := asc_one (key := id) asc usort_asc fun x => by
          rw [mem x, decide_eq_true_eq, usort_mem (key := id) (fun a _ b _ e => e)]
        subst em
        have st1 : Step A F H1 A F (upd H1 p (SetO X.w p (fun k => decide (k ∈ ns)) c)) := .newO s hp
        have o1 := o.new st1 (keep_new hp)
        refine f _ A _ _ (st1.trans (.new st1.fh hq)) (o1.new (.new st1.fh hq) (keep_new hq)) (.inl (.lst upd_same ?_))
        exact rpi_ints _ (usort id ns)
      · cases e
    · split at e
      · rename_i hno ps hps
        split at e
        · rename_i hlt
          cases e
          have := prsOf_some hps
          subst this
          obtain ⟨ks, rfl, ek, hk⟩ := rp_prs rp
          have lk : ks.length = ps.length := by
            have := congrArg List.length ek
            simpa using this
          have bd : ∀ p ∈ ks, ∃ z : Int × Int, prOk z = true ∧ p.2 = [z.1, z.2] ∧ z ∈ ps := fun p hp => by
            have : p.2 ∈ ks.map (·.2) := List.mem_map.mpr ⟨p, hp, rfl⟩
            rw [ek] at this
            obtain ⟨z, hz, ez⟩ := List.mem_map.mp this
            exact ⟨z, List.all_eq_true.mp hlt.2 z hz, ez.symm, hz⟩
          refine .inr ⟨l, ks, rfl, .inl (.inl hl), fun p hp => .inl (.inl (s _ _ (hk p hp))), by omega, fun p L hp hsub hall => .inr ⟨p, L, 2, 64, rfl, upd_same, fun y hy => ?_, by omega, fun y hy => ?_, fun L' q pm nd l64 asc hq => ?_⟩⟩
          · refine .inl (.inl ?_)
            have hy1 := s _ _ (hk y (hsub y hy))
            rw [upd_ne (ne_of_none hy1 hp)]
            exact hy1
          · obtain ⟨z, hz, e2, _⟩ := bd y (hsub y hy)
            unfold prOk at hz
            simp only [decide_eq_true_eq] at hz
            rw [e2]
            refine ⟨rfl, fun n hn => ?_⟩
            simp at hn
            omega
          · have hpq : q ≠ p := by
              intro z; subst z; rw [upd_same] at hq; cases hq
            have hmem : ∀ y ∈ L', y ∈ ks := fun y hy => hsub y (pm.mem_iff.mp hy)
            -- the pairs of L'
            let qs : List (Int × Int) := L'.map fun y => (y.2.getD 0 0, y.2.getD 1 0)
            have eL : L'.map (·.2) = qs.map fun p => [p.1, p.2] := by
              rw [List.map_map]
              refine List.map_congr_left fun y hy => ?_
              obtain ⟨z, _, e2, _⟩ := bd y (hmem y hy)
              simp [e2]
            have inj : ∀ a ∈ ps, ∀ b ∈ ps, prKey a = prKey b → a = b := fun a ha b hb e => by
              have h1 := List.all_eq_true.mp hlt.2 a ha
              have h2 := List.all_eq_true.mp hlt.2 b hb
              unfold prOk at h1 h2
              unfold prKey at e
              simp only [decide_eq_true_eq] at h1 h2
              exact Prod.ext (by omega) (by omega)
            have eq : qs = usort prKey ps := by
              refine asc_one (key := prKey) ?_ usort_asc fun x => ?_
              · show (L'.map fun y => (y.2.getD 0 0, y.2.getD 1 0)).Pairwise _
                rw [List.pairwise_map]
                have nd2 : L'.Pairwise fun y z => y.2 ≠ z.2 := List.pairwise_map.mp nd
                refine (asc.and nd2).imp_of_mem fun {y z} hy hz ⟨h1, h2⟩ => ?_
                obtain ⟨a, oa, ea, ma⟩ := bd y (hmem y hy)
                obtain ⟨b, ob, eb, mb⟩ := bd z (hmem z hz)
                rw [ea, eb, code_pair, code_pair] at h1
                have h3 : a ≠ b := fun e => h2 (by rw [ea, eb, e])
                have h4 : prKey a ≠ prKey b := fun e => h3 (inj a ma b mb e)
                simp only [ea, eb]
                unfold prKey at h4 ⊢
                simp
                omega
              · rw [usort_mem inj]
                refine ⟨fun h => ?_, fun h => ?_⟩
                · obtain ⟨y, hy, rfl⟩ := List.mem_map.mp h
                  obtain ⟨z, _, ez, mz⟩ := bd y (hmem y hy)
                  simpa [ez] using mz
                · have h1 : ([x.1, x.2] : List Int) ∈ ks.map (·.2) := by rw [ek]; exact List.mem_map.mpr ⟨x, h, rfl⟩
                  obtain ⟨k, hk1, hk2⟩ := List.mem_map.mp h1
                  obtain ⟨y, hy, ey⟩ := List.mem_map.mp (hall k hk1)
                  refine List.mem_map.mpr ⟨y, pm.mem_iff.mpr hy, ?_⟩
                  rw [ey, hk2]
                  rfl
            rw [← eq] at f
            have st1 : Step A F H1 A F (upd H1 p (SetTO X.prog X.w p L)) := .newO s hp
            have o1 := o.new st1 (keep_new hp)
            refine f _ A _ _ (st1.trans (.new st1.fh hq)) (o1.new (.new st1.fh hq) (keep_new hq)) (.inl (.lst upd_same ?_))
            refine RpAll.mono (Fin.tup.same_upd_ (st1.fh.free hq)) _ _ (rp_of_prs eL fun y hy => hk y (hmem y hy))
        · cases e
      · cases e
  | _ => cases e
end
end Rx

set_option Elab.async false
set_option linter.all false
set_option maxRecDepth 100000
set_option maxHeartbeats 4000000
set_option autoImplicit false
namespace Rx
open PySem L2 PySem.Spec
open PyProof.Rows (IntsAre seqObj)
/-! ### sorted(t), t a tuple -/
section
open PySem.Calls PyProof.Rows PySem.W
variable {prog : Program} {w : World} {A : Around} {E : Value → Shared → Prop} {s : Shared}
theorem collect_tup {l : Addr} {vs : List Value} {Q : List Value → Shared → Prop} (hl : s.heap.IsTuple l vs.toArray) (hsz : vs.length ≤ sizeLine)
    (h : Q vs { s with heap := (s.heap.push (seqObj "list" #[] 0)).update s.heap.objs.size (Obj.mapSeq (· ++ vs.toArray)) }) : wpAny (model prog w) A (collect (.ref l)) Q E s := by
  obtain ⟨o, ho, hc, n, hd⟩ := id hl
  have ho' : (s.heap.push (seqObj "list" #[] 0)).get? l = some o := Heap.get?_push_of_some _ ho
  have mine : (s.heap.push (seqObj "list" #[] 0)).get? s.heap.objs.size = some (seqObj "list" #[] 0) := Heap.get?_push_size _ rfl
  unfold collect
  refine wpAny_bind (wpAny_runValue (codeAny_builtin entry_proto_collect' (wpAny_bind (wpAny_newList (wpAny_pure ⟨Code.quiet_builtin _ (by decide +kernel), codeAny_builtin entry_list_iadd' ?_⟩)))))
  show wpAny _ _ (Builtin.List.listExtendWith (.ref s.heap.objs.size) (.ref l) (.ref s.heap.objs.size)) _ _ { s with heap := s.heap.push (seqObj "list" #[] 0) }
  unfold Builtin.List.listExtendWith
  refine wpAny_bind (wpAny_typeOf (T := "tuple") ⟨o, ho', hc⟩ ?_)
  have tt : (Value.type "tuple" == Value.type "tuple") = true := by rfl
  rw [if_pos (by rw [tt]; simp)]
  refine wpAny_bind (listItems_at ho' hd (wpAny_bind (listItems_at mine rfl ?_)))
  rw [if_neg (by simp)]
  refine wpAny_bind (listUpdate_at mine rfl (wpAny_pure ?_) (Nat.zero_le _) (by show (#[] ++ vs.toArray).size ≤ sizeLine + 1; simp only [Array.size_append, List.size_toArray, List.length_nil]; omega))
  refine wpAny_bind (wpAny_load (get?_update_seq mine _) ?_)
  have e : ((#[] : Array Value) ++ vs.toArray).toList = vs := by simp
  show wpAny _ _ (pure ((#[] : Array Value) ++ vs.toArray).toList) Q E _
  rw [e]
  exact wpAny_pure h
theorem sorted_tup {β : Type} {vs : List Value} {bs : List β} {enc : β → PyData} {R : Value → β → Prop} {l : Addr} {Q : Value → Shared → Prop} (hl : s.heap.IsTuple l vs.toArray) (e : EachIs R vs bs) (er : EachIs (fun v b => ∃ as, Reads s.heap v (enc b) as) vs bs) (hal : AllAlike (bs.map enc)) (hk : Sortable (bs.map enc)) (hL : bs.length ≤ sizeLine)
    (hu : ∀ b, b ∈ bs → A.units + 2 + (enc b).depth < cLine) (h : ∀ out, out.length = bs.length → EachIs R out (bs.mergeSort (dataLe false enc)) → Q (.ref (s.heap.objs.size + 1)) { s with heap := sortedAll s.heap vs (List.toArray out) }) :
    wpAny (model prog w) A (call (.builtin "sorted") [.ref l]) Q E s := by
  have hLv : vs.length ≤ sizeLine := by rw [e.length]; exact hL
  have er2 : EachIs (fun v b => ∃ as, Reads (sortingHeap (copyHeap s.heap vs) (s.heap.objs.size + 1) vs) v (enc b) as) vs bs := er.mono fun _ _ ⟨as, r⟩ => ⟨as, PyProof.Rows.Reads.keeps (fun _ _ => sorting_copy_old) r⟩
  refine call_function_entry_kw kind_sorted plain_sorted entry_sorted (args_sorted1 _) ?_
  unfold Builtin.«sorted»
  refine wpAny_bind (m := checkCount "sorted" 1 1 _) (wpAny_pure (wpAny_bind (collect_tup hl hLv (wpAny_bind (wpAny_newList ?_ hLv)))))
  have size : ((s.heap.push (seqObj "list" #[] 0)).update s.heap.objs.size (Obj.mapSeq (· ++ vs.toArray))).objs.size = s.heap.objs.size + 1 := by rw [Heap.size_update, size_push']
  show wpAny _ _ _ _ _ { s with heap := copyHeap s.heap vs }
  rw [size]
  refine wpAny_bind (wpAny_holding (wpAny_call_entry slot_list_sort ⟨_, copyHeap_at s.heap vs, rfl⟩ entry_list_sort
    (list_sort_vals (s := { s with heap := copyHeap s.heap vs }) (κ := dataKind (sortingHeap (copyHeap s.heap vs) (s.heap.objs.size + 1) vs) (bs.map enc)) (copyHeap_at s.heap vs) (SortsAt.data (s := { s with heap := sortingHeap (copyHeap s.heap vs) (s.heap.objs.size + 1) vs }) (each_map (R := fun v d => ∃ as, Reads (sortingHeap (copyHeap s.heap vs) (s.heap.objs.size + 1) vs) v d as) enc er2) hal hk (bound_map hu)) hLv ⟨.none, rfl, wpAny_pure ⟨_, rfl, ?_⟩⟩) (args_list_sort _)))
  exact h _ (by rw [sortVals_length false rfl]; exact e.length) (sortVals_data false e er2 hal)
end
section
open PySem.W
variable {X : Cx} {G : Cg}
def rSrtT (K : PySem.W.Frag) : List V → Hp → VK → Prop := fun vs H Q => ∃ (a : Addr) (xs : List V) (ds : List D), vs = [V.ref a] ∧ H a = some (.tup xs) ∧ RpAll H xs ds ∧ srtOk ds = true ∧
  ∀ (ys : List V) (p : Addr), ys = ((xs.zip ds).mergeSort (fun p q => led p.2 q.2)).map (·.1) → H p = none → Q (.ref p) (upd H p (.lst ys))
theorem cr_srtT (hu : X.A.units + 64 < cLine) : CallR X (.builtin "sorted") (rSrtT X.K) := by
  intro pins s σ H vs us Q I r h
  obtain ⟨a, xs, ds, rfl, ha, rp, ok, q⟩ := h
  obtain ⟨al, so, dp, hz⟩ := srtOk_of ok
  obtain ⟨its, rv, hl, hzl⟩ := I.tuple (.inl (.inl ha))
  rw [Vals.ref1 r]
  obtain ⟨e1, e2⟩ := each_of I xs ds its rp rv
  have hzip : (xs.zip ds).map Prod.snd = ds := zip_snd rp
  refine sorted_tup (enc := Prod.snd) hl e1 e2 (by rw [hzip]; exact al) (by rw [hzip]; exact so) ?_ (fun b hb => ?_) fun out ho eo => ?_
  · rw [List.length_zip, rp.length, Nat.min_self]; exact zl hz
  · have := dp b.2 (by rw [← hzip]; exact List.mem_map.mpr ⟨b, hb, rfl⟩)
    omega
  · obtain ⟨ep, he'⟩ := PyProof.Rows.sortedAll_at s.heap its out.toArray
    have eq : (xs.zip ds).mergeSort (dataLe false Prod.snd) = (xs.zip ds).mergeSort (fun p q => led p.2 q.2) := PySem.W.sort_congr fun a _ b _ => (led_eq a.2 b.2).symm
    rw [eq] at eo
    have vl := vals_each eo
    have hlen : (((xs.zip ds).mergeSort (fun p q => led p.2 q.2)).map (·.1)).length ≤ sizeLine := by
      rw [List.length_map, List.length_mergeSort, List.length_zip, rp.length, Nat.min_self]
      exact zl hz
    exact ⟨.ref _, upd H (s.heap.objs.size + 1) (.lst _), I.laid (t' := s.toks) (fun _ _ => PyProof.Rows.sortedAll_old) (Nat.le_succ _) ⟨hlen, out, ep, vl, by simpa using he'⟩, rfl, q _ _ rfl (I.hok.fresh (Nat.le_succ _))⟩
end
section
variable {X : Cx} {G : Cg} {a : Expr} {da : Ex} {pos ps : Pos}
theorem pd_sortedT (hst : starEach [a] X.env = (false, eval a X.env) :: starEach [] X.env) (hu : X.A.units + 64 < cLine) (hg : Gl X "sorted") (hm : X.mg "sorted" = none) (ha : PE X a (tO G da)) : PE X (.Call (.Name "sorted" ps) [a] [] pos) (tD G (dPrim .sortedT (dCons da dNil))) :=
  pd_fnB (p := .sortedT) ⟨_, cr_srtT hu, fun Q vs H k => by
    obtain ⟨A, F, w, v, d1, d, e1, s, o, r, e, f⟩ := p1_args (f := sortedTP) rfl k
    subst e1
    cases d1 with
    | tuple ds =>
      replace e : (if srtOk ds then some (PyData.list (isort led ds)) else none) = some d := e
      split at e
      · rename_i ok; cases e
        obtain ⟨a, xs, rfl, ha, rp⟩ := r.tup
        refine ⟨a, xs, ds, rfl, s _ _ ha, rp.mono s, ok, fun ys p hy hp => ?_⟩
        subst hy
        exact f.lst s o hp (srt_all rp)
      · cases e
    | _ => cases e⟩ hg hm (by decide +kernel) (pao_cons ha pao_nil hst) (by decide) (by decide) hst rfl
end
/-! ### sum -/
section
variable {prog : Program} {w : World} {A : Around} {E : Value → Shared → Prop} {s : Shared} {l : Addr} {its : List Value} {ns : List Int} {Q : Value → Shared → Prop}
theorem sum_tup (hh : A.handled = none) (hl : s.heap.IsTuple l its.toArray) (hi : IntsAre its ns)
    (h : ∀ h' tk t', (∀ b o, s.heap.get? b = some o → h'.get? b = some o) → Q (.int ns.sum t') { s with heap := h', toks := tk }) : wpAny (model prog w) A (call (.builtin "sum") [.ref l]) Q E s := by
  obtain ⟨xs, e⟩ := hi.allInts.items
  have hn : numsOf (intItems xs).toList = ns := by rw [← e]; exact hi.numsOf
  rw [nums_intItems] at hn
  rw [e] at hl
  have lt : l < s.heap.objs.size := by obtain ⟨_, q, _⟩ := hl; exact Heap.lt_size q
  refine call_sum_walkG (wpAny_pyIter_tuple hl ⟨_, _, _, _, _, _, numAt xs, rfl, Walks.tuple (A := A.in1) hh _ l (Nat.ne_of_lt lt) (intItems xs), ⟨⟨_, Heap.get?_push_size _ rfl, rfl, rfl⟩, hl.push _⟩, fun b hb => ?_, (fun _ _ => intItems_at), fun h' tk t' hk => ?_⟩)
  · show b < (s.heap.push _).objs.size
    rw [Heap.size_push]
    rcases List.mem_cons.mp hb with z | z
    · rw [z]; exact Nat.lt_succ_self _
    · rw [List.mem_singleton.mp z]; exact Nat.lt_succ_of_lt lt
  · have q := h h' tk t' fun b o e => hk b o (fun m => absurd (Heap.lt_size e) ((List.mem_singleton.mp m) ▸ Nat.lt_irrefl _)) (Heap.get?_push_of_some _ e)
    have e2 : preSum (numAt xs) (intItems xs).size = ns.sum := by
      rw [show (intItems xs).size = xs.size by simp [intItems], preSum_eq, List.take_of_length_le (by simp), hn]
    rw [e2]
    exact q
end
section
variable {X : Cx} {G : Cg} {a : Expr} {da : Ex} {pos ps : Pos}
theorem cr_sumT (hc : X.calm = true) : CallR X (.builtin "sum") (fun vs H Q => ∃ (a : Addr) (ns : List Int), vs = [V.ref a] ∧ SqT X.K H a (ns.map V.int) ∧ Q (.int ns.sum) H) := by
  intro pins s σ H vs us Q I r h
  obtain ⟨a, ns, rfl, ha, q⟩ := h
  obtain ⟨its, rv, pl, hz⟩ := I.tuple ha
  rw [Vals.ref1 r]
  refine sum_tup (I.ok.hd hc) pl (ints_of_vals rv) fun h' tk t' k => ?_
  exact ⟨.int ns.sum, H, I.un (Un.kept k) (I.hok.kept k), ⟨t', rfl⟩, q⟩
theorem sumI_some : ∀ {ds : List D} {n : Int}, sumI ds = some n → ∃ ns : List Int, ds = ns.map .int ∧ n = ns.sum
  | [], n, h => by cases h; exact ⟨[], rfl, rfl⟩
  | .int i :: r, n, h => by
    unfold sumI at h
    rw [Option.map_eq_some_iff] at h
    obtain ⟨m, h1, rfl⟩ := h
    obtain ⟨ns, rfl, rfl⟩ := sumI_some h1
    exact ⟨i :: ns, rfl, by simp⟩
  | .none :: _, _, h => by cases h
  | .bool _ :: _, _, h => by cases h
  | .str _ :: _, _, h => by cases h
  | .list _ :: _, _, h => by cases h
  | .tuple _ :: _, _, h => by cases h
  | .dict _ :: _, _, h => by cases h
theorem pd_sum (hst : starEach [a] X.env = (false, eval a X.env) :: starEach [] X.env) (hc : X.calm = true) (hg : Gl X "sum") (hm : X.mg "sum" = none) (ha : PE X a (tO G da)) : PE X (.Call (.Name "sum" ps) [a] [] pos) (tD G (dPrim .sum (dCons da dNil))) :=
  pd_fnB (p := .sum) ⟨_, CallR.or (cr_sum hc) (cr_sumT hc), fun Q vs H k => by
    obtain ⟨A, F, w, v, d1, d, e1, s, o, r, e, f⟩ := p1_args (f := sumP) rfl k
    subst e1
    replace e : ((items d1).bind fun ds => (sumI ds).map PyData.int) = some d := e
    cases d1 with
    | list ds =>
      replace e : (sumI ds).map PyData.int = some d := e
      rw [Option.map_eq_some_iff] at e
      obtain ⟨n, e1, rfl⟩ := e
      obtain ⟨ns, rfl, rfl⟩ := sumI_some e1
      obtain ⟨a, xs, rfl, ha, rp⟩ := r.lst s
      have := rp_ints rp
      subst this
      exact .inl ⟨a, ns, rfl, .inl (.inl ha), f.same s o (.inl (.int _))⟩
    | tuple ds =>
      replace e : (sumI ds).map PyData.int = some d := e
      rw [Option.map_eq_some_iff] at e
      obtain ⟨n, e1, rfl⟩ := e
      obtain ⟨ns, rfl, rfl⟩ := sumI_some e1
      obtain ⟨a, xs, rfl, ha, rp⟩ := r.tup
      have := rp_ints rp
      subst this
      exact .inr ⟨a, ns, rfl, .inl (.inl (s _ _ ha)), f.same s o (.inl (.int _))⟩
    | _ => cases e⟩ hg hm (by decide +kernel) (pao_cons ha pao_nil hst) (by decide) (by decide) hst rfl
end
end Rx

set_option Elab.async false
set_option linter.all false
set_option maxRecDepth 100000
set_option maxHeartbeats 4000000
set_option autoImplicit false
namespace Rx
open PySem L2 PySem.Spec PySem.W
/-! ### min of a list of data -/
theorem ltd_eq (x y : D) : ltd x y = dataLt x y := by
  have h := led_eq y x
  unfold led at h
  rw [PySem.W.dataLe_eq] at h
  have h2 : (!ltd x y) = (!dataLt x y) := h
  cases h3 : ltd x y <;> cases h4 : dataLt x y <;> rw [h3, h4] at h2 <;> first | rfl | cases h2
theorem minF_eq (x : D) (xs : List D) : minF x xs = minD x xs := by
  unfold minF minD
  congr 1
  funext a y
  rw [ltd_eq]
theorem depthAll_le : ∀ {n : Nat} {ds : List D}, (∀ d ∈ ds, d.depth ≤ n) → PyData.depthAll ds ≤ n
  | n, [], _ => Nat.zero_le _
  | n, d :: ds, h => by
    unfold PyData.depthAll
    exact Nat.max_le.mpr ⟨h d (.head _), depthAll_le fun e he => h e (.tail _ he)⟩
section
variable {X : Cx} {G : Cg} {a : Expr} {da : Ex} {pos ps : Pos}
theorem cr_minD (hc : X.calm = true) (hu : X.A.units + 64 < cLine) : CallR X (.builtin "min") (fun vs H Q => ∃ (a : Addr) (xs : List V) (x : D) (ds : List D), vs = [V.ref a] ∧ H a = some (.lst xs) ∧ RpAll H xs (x :: ds) ∧ srtOk (x :: ds) = true ∧
    ∀ (i : Nat) (v : V), xs[i]? = some v → (x :: ds)[i]? = some (minF x ds) → Q v H) := by
  intro pins s σ H vs us Q I r h
  obtain ⟨a, xs, x, ds, rfl, ha, rp, ok, q⟩ := h
  obtain ⟨al, so, dp, hz⟩ := srtOk_of ok
  obtain ⟨its, rv, hl, hzl⟩ := I.list (SqL.of ha)
  rw [Vals.ref1 r]
  obtain ⟨as, ra⟩ := Dp.readsAll I _ _ _ rp.dp rv
  have nn : ∀ d ∈ x :: ds, d ≠ PyData.none := fun d hd => by
    rcases so with z | z
    · obtain ⟨y, t, e⟩ := z d hd
      rw [e]; intro k; cases k
    · exact (z d hd).1
  have dl := depthAll_le dp
  refine min_list_data (I.ok.hd hc) hl.isList (by simpa using ra) ⟨fun d hd e he => al d hd e he, nn⟩ (by omega) fun i v h' tk bs hv hr k => ?_
  have hv' : its[i]? = some v := by simpa using hv
  have hlt : i < xs.length := by rw [rv.length]; exact (List.getElem?_eq_some_iff.mp hv').1
  obtain ⟨v2, hv2, hu2⟩ := rv.get (List.getElem?_eq_getElem hlt)
  obtain ⟨u, hu1⟩ : ∃ u, xs[i]? = some u := ⟨_, List.getElem?_eq_getElem hlt⟩
  rw [hv'] at hv2
  cases hv2
  have hue : xs[i] = u := by rw [List.getElem?_eq_getElem hlt] at hu1; exact Option.some.inj hu1
  rw [hue] at hu2
  obtain ⟨d, hd1, hd2⟩ := rp.getV hu1
  obtain ⟨cs, rd⟩ := Dp.reads I _ _ _ hd2.dp hu2
  have e := (Reads.unique (PyProof.Rows.Reads.keeps k rd) _ _ hr).1
  rw [← minF_eq] at e
  exact ⟨u, H, I.un (Un.kept k) (I.hok.kept k), hu2, q i u hu1 (by rw [hd1, e])⟩
theorem pd_min1 (hst : starEach [a] X.env = (false, eval a X.env) :: starEach [] X.env) (hc : X.calm = true) (hu : X.A.units + 64 < cLine) (hg : Gl X "min") (hm : X.mg "min" = none) (ha : PE X a (tO G da)) : PE X (.Call (.Name "min" ps) [a] [] pos) (tD G (dPrim .min1 (dCons da dNil))) :=
  pd_fnB (p := .min1) ⟨_, cr_minD hc hu, fun Q vs H k => by
    obtain ⟨A, F, w, v, d1, d, e1, s, o, r, e, f⟩ := p1_args (f := min1P) rfl k
    subst e1
    cases d1 with
    | list ds =>
      cases ds with
      | nil => cases e
      | cons x ds =>
        replace e : (if srtOk (x :: ds) then some (minF x ds) else none) = some d := e
        split at e
        · rename_i ok; cases e
          obtain ⟨a, xs, rfl, ha, rp⟩ := r.lst s
          refine ⟨a, xs, x, ds, rfl, ha, rp.mono s, ok, fun i v hv hi => ?_⟩
          obtain ⟨d2, hd1, hd2⟩ := rp.getV hv
          rw [hd1] at hi
          cases hi
          exact f.same s o (.inl hd2)
        · cases e
    | _ => cases e⟩ hg hm (by decide +kernel) (pao_cons ha pao_nil hst) (by decide) (by decide) hst rfl
end
end Rx

set_option Elab.async false
set_option linter.all false
set_option maxRecDepth 100000
set_option maxHeartbeats 4000000
set_option autoImplicit false
namespace Rx
open PySem L2 PySem.Spec
/-! ### texts: f"{a}t{b}", sep.join(xs), str(x) -/
theorem small_log {i : Int} (h : small i = true) : i.natAbs.log2 < 1920 := by
  unfold small at h
  simp only [Bool.and_eq_true, decide_eq_true_eq] at h
  have h1 : i.natAbs < 2 ^ 64 := by omega
  by_cases h0 : i.natAbs = 0
  · rw [h0]; decide
  · have := (Nat.log2_lt h0).mpr (Nat.lt_of_lt_of_le h1 (Nat.pow_le_pow_right (by decide) (show 64 ≤ 1920 by decide)))
    exact this
theorem strsOf_some : ∀ {ds : List D} {ys : List Str}, strsOf ds = some ys → ds = ys.map .str
  | [], _, h => by cases h; rfl
  | .str x :: r, ys, h => by
    unfold strsOf at h
    rw [Option.map_eq_some_iff] at h
    obtain ⟨zs, h1, rfl⟩ := h
    rw [strsOf_some h1]; rfl
  | .none :: _, _, h => by cases h
  | .bool _ :: _, _, h => by cases h
  | .int _ :: _, _, h => by cases h
  | .list _ :: _, _, h => by cases h
  | .tuple _ :: _, _, h => by cases h
  | .dict _ :: _, _, h => by cases h
theorem rp_strs {F : Hp} : ∀ {ys : List Str} {vs : List V}, RpAll F vs (ys.map .str) → vs = ys.map V.str
  | [], _, h => by cases h; rfl
  | y :: ys, _, h => by
    cases h with
    | cons a t => cases a; rw [rp_strs t]; rfl
section
variable {X : Cx} {G : Cg} {a b : Expr} {da db : Ex} {pos ps p1 p2 p3 apos : Pos} {j : Nat} {t : Str}
theorem fmt_of {A : List Addr} {F H : Hp} {v : V} {d : D} {x : Str} {Q : VK} (ro : Ro G.K A F H v d) (h : fpiece d = some x) (q : Q (.str x) H) : (∃ y : Str, v = .str y ∧ y.length ≤ sizeLine ∧ Q (.str y) H) ∨ ∃ i : Int, v = .int i ∧ i.natAbs.log2 < 1920 ∧ Q (.str (toString i)) H := by
  cases d with
  | str y =>
    replace h : (if y.length ≤ zL then some y else none) = some x := h
    split at h
    · rename_i hz; cases h
      exact .inl ⟨_, ro.str, zl hz, q⟩
    · cases h
  | int i =>
    replace h : (if small i then some (strI i) else none) = some x := h
    split at h
    · rename_i hz; cases h
      exact .inr ⟨i, ro.int, small_log hz, q⟩
    · cases h
  | _ => cases h
theorem pd_fstr (ha : PE X a (tO G da)) (hb : PE X b (tO G db)) :
    PE X (.JoinedStr [.FormattedValue a (-1) none p1, .Constant (.str t) j p2, .FormattedValue b (-1) none p3] pos) (tD G (dFstr da t db)) := by
  refine peI (pe_joined (.cons (pe_fmt ha) (.cons pe_str (.cons (pe_fmt hb) .nil)))) fun σ H Q h => ?_
  obtain ⟨A, F, r, w, x, w', rel, e, post⟩ := h
  unfold dFstr at e
  show tO G da σ H _
  cases h1 : da G.c r w with
  | none => rw [h1] at e; cases e
  | some pr =>
    obtain ⟨x1, w1⟩ := pr
    rw [h1] at e
    cases x1 with
    | exc y => cases e; exact ⟨A, F, r, w, .exc y, _, rel, h1, post⟩
    | val d =>
      simp only at e
      cases hf : fpiece d with
      | none => rw [hf] at e; cases e
      | some xa =>
        rw [hf] at e
        simp only at e
        split at e
        · rename_i hz
          refine ⟨A, F, r, w, .val d, w1, rel, h1, fun v A1 F1 H1 s1 o1 r1 => fmt_of (Q := fun x H1 => ∃ y : Str, x = .str y ∧ (Str.empty ++ y).length ≤ sizeLine ∧ tJs [tC (V.str t), tFmt (tO G db)] (Str.empty ++ y) σ H1 fun out H1 => Q (V.str out) H1) r1 hf ?_⟩
          refine ⟨xa, rfl, zl hz.1, t, rfl, zl hz.2, ?_⟩
          show tO G db σ H1 _
          cases h2 : db G.c r w1 with
          | none => rw [h2] at e; cases e
          | some pr =>
            obtain ⟨x2, w2⟩ := pr
            rw [h2] at e
            cases x2 with
            | exc y => cases e; exact ⟨A1, F1, r, w1, .exc y, _, rel.step s1 o1, h2, fun cls dd A2 F2 H2 s2 o2 q => post cls dd A2 F2 H2 (s1.trans s2) o2 q⟩
            | val d2 =>
              simp only at e
              cases hf2 : fpiece d2 with
              | none => rw [hf2] at e; cases e
              | some xb =>
                rw [hf2] at e
                simp only at e
                split at e
                · rename_i hz2
                  cases e
                  refine ⟨A1, F1, r, w1, .val d2, _, rel.step s1 o1, h2, fun v2 A2 F2 H2 s2 o2 r2 => fmt_of (Q := fun x H1 => ∃ y : Str, x = .str y ∧ (Str.empty ++ xa ++ t ++ y).length ≤ sizeLine ∧ tJs [] (Str.empty ++ xa ++ t ++ y) σ H1 fun out H1 => Q (V.str out) H1) r2 hf2 ?_⟩
                  exact ⟨xb, rfl, zl hz2, post _ A2 F2 H2 (s1.trans s2) o2 (.inl (.str _))⟩
                · cases e
        · cases e
theorem pd_join (hK : G.K = X.K) (hs : starEach [b] X.env = [(false, eval b X.env)]) (hbase : attributeBase a "join" X.env (eval a X.env) = eval a X.env) (hline : (apos.endLine == pos.line) = true) (ha : PE X a (tO G da)) (hb : PE X b (tO G db)) :
    PE X (.Call (.Attribute a "join" apos) [b] [] pos) (tD G (dMeth .join isStr da db)) := by
  refine peI (pe_join ha hb hs hbase hline) fun σ H Q q => tO_imp (meth_of q) fun x H1 ⟨A, F, w, d, s, o, ro, ok, k⟩ => ?_
  cases d with
  | str y =>
    refine ⟨⟨y, ro.str⟩, tO_imp k fun z H2 ⟨A2, F2, w2, e, v, s2, o2, ro2, ry, ep, fn⟩ => ?_⟩
    replace ep : joinP (.str y) e = some v := ep
    cases e with
    | list xs =>
      replace ep : ((strsOf xs).bind fun ys => if sumLen ys + ys.length * y.length ≤ zL then some (PyData.str (Str.join y ys)) else none) = some v := ep
      rw [Option.bind_eq_some_iff] at ep
      obtain ⟨ys, e1, e2⟩ := ep
      split at e2
      · rename_i hz; cases e2
        have := strsOf_some e1
        subst this
        obtain ⟨a1, vs, rfl, hl, rp⟩ := ry.lst s2.fh
        have := rp_strs rp
        subst this
        refine ⟨y, a1, ys, ro2.str, rfl, .inl (.inl (.inl hl)), ?_, ?_⟩
        · have : (ys.map (·.length)).sum + ys.length * y.length ≤ zL := hz
          unfold zL at this
          omega
        · show Q (.str (Txt.join y ys)) H2
          rw [show Txt.join y ys = Str.join y ys from PySem.StrLaws.glued_eq_join y ys]
          exact fn.same s2.fh o2 (.inl (.str _))
      · cases e2
    | _ => cases ep
  | _ => cases ok
theorem pd_str1 (hst : starEach [a] X.env = (false, eval a X.env) :: starEach [] X.env) (hg : Gl X "str") (hm : X.mg "str" = none) (ha : PE X a (tO G da)) : PE X (.Call (.Name "str" ps) [a] [] pos) (tD G (dPrim .str (dCons da dNil))) :=
  pd_fnT (p := .str) ⟨_, CallR.or call_str_int SkE.call_str_str, fun Q vs H k => by
    obtain ⟨A, F, w, v, d1, d, e1, s, o, r, e, f⟩ := p1_args (f := strP) rfl k
    subst e1
    cases d1 with
    | int i =>
      replace e : (if small i then some (PyData.str (strI i)) else none) = some d := e
      split at e
      · rename_i hz; cases e
        exact .inl ⟨i, by rw [r.int], small_log hz, f.same s o (.inl (.str _))⟩
      · cases e
    | str x =>
      cases e
      exact .inr ⟨x, by rw [r.str], f.same s o (.inl (.str _))⟩
    | _ => cases e⟩ hg hm (by decide +kernel) (pao_cons ha pao_nil hst) (by decide) (by decide) hst rfl
end
end Rx

set_option Elab.async false
set_option linter.all false
set_option maxRecDepth 100000
set_option maxHeartbeats 4000000
set_option autoImplicit false
namespace Rx
open PySem L2 PySem.Spec
/-! ### enumerate of a tuple -/
def Iet (K : PySem.W.Frag) (a : Addr) (N : Nat) : It :=
  ⟨fun i H => ∃ (xs : List V) (x : V), SqT K H a xs ∧ xs.length = N ∧ xs[i]? = some x,
   fun i H v H' => ∃ T x, v = .ref T ∧ H T = none ∧ H' = upd H T (.tup [.int (i : Nat), x]) ∧ ∀ xs, SqT K H a xs → xs[i]? = some x,
   fun i H => ∃ xs : List V, SqT K H a xs ∧ xs.length = N ∧ N ≤ i⟩
theorem turn_en {P : Program} {w : World} {K : PySem.W.Frag} {elts : List Expr} {kk : Nat} {tpos : Pos} (a e it : Addr) (N : Nat) :
    Turn P w K (.Tuple elts kk tpos) (Iet K a N) [e, it] e (fun i h => (∃ old, IsEnum h e it ((i : Nat) : Int) old) ∧ h.IsTupleIter it a i ∧ e ≠ it ∧ i ≤ N) where
  mem := by simp
  obj := fun i h st b hb => by
    obtain ⟨⟨old, he⟩, ⟨o, ho, hc, hd⟩, _⟩ := st
    rcases List.mem_cons.mp hb with z | z
    · rw [z]; exact ⟨_, he, fun v q => nomatch q⟩
    · rw [List.mem_singleton.mp z]; exact ⟨o, ho, fun v q => by rw [hd] at q; cases q⟩
  keep := fun i h h' st k => let ⟨⟨old, he⟩, hi, hne, hN⟩ := st; ⟨⟨old, k e (by simp) _ he⟩, hi.at fun o q => k it (by simp) o q, hne, hN⟩
  item := by
    intro X hP hw hK hc i pins s σ H E I hf st hg
    subst hP hw hK
    obtain ⟨⟨old, he⟩, hit, hne, hN⟩ := st
    obtain ⟨xs, x, hq, hlN, hx⟩ := hg
    obtain ⟨its, rv, p, hz⟩ := I.tuple hq
    obtain ⟨u, hu, ru⟩ := rv.get hx
    have hel : e < s.heap.objs.size := Heap.lt_size he
    have hil : it < s.heap.objs.size := by obtain ⟨_, q, _⟩ := hit; exact Heap.lt_size q
    have hai : a ≠ it := by
      rintro rfl
      obtain ⟨o1, g1, c1, _⟩ := hit
      obtain ⟨o2, g2, c2, _⟩ := p
      rw [g1] at g2; cases g2
      rw [c1] at c2
      injection c2 with c3
      exact absurd c3 (by decide)
    have hae : a ≠ e := by
      rintro rfl
      obtain ⟨o2, g2, c2, _⟩ := p
      have g1 := he
      unfold IsEnum at g1
      rw [g1] at g2; cases g2
      injection c2 with c3
      exact absurd c3 (by decide)
    have hlt : i < its.toArray.size := by
      rw [List.size_toArray, ← rv.length]
      exact (List.getElem?_eq_some_iff.mp hx).1
    have D := Draws.tuple (prog := X.prog) (w := X.w) (A := X.A.in1) (by simp [I.ok.hd hc]) it a hai its.toArray
    refine wpAny_pyNext_enum_itemD D he ⟨hit, p⟩ hlt hne (fun m => by
      rcases List.mem_cons.mp m with z | z
      · exact hne z
      · exact hae (List.mem_singleton.mp z).symm) fun y h' tk hy ho hst hT hsz hk => ?_
    have hyu : y = u := by
      have : its[i]? = some y := by simpa using hy
      rw [hu] at this
      exact (Option.some.inj this).symm
    subst hyu
    refine ⟨_, rfl, wpAny_letOwnedTupleGo_enum (s := { s with heap := h', toks := tk + 1 }) ho fun h'' he' sb => ?_⟩
    have hT2 : h''.get? s.heap.objs.size = some { cls := .type "tuple", data := .seq #[.int i tk, y] } := (sb.2 _ (Nat.ne_of_gt hel)).trans hT
    have new : ObjOk X.prog X.w (upd H s.heap.objs.size (.tup [.int (i : Nat), x])) h'' s.heap.objs.size (.tup [.int (i : Nat), x]) :=
      ⟨by show 2 ≤ sizeLine; decide, [.int i tk, y], .cons ⟨_, rfl⟩ (.cons ru .nil), ⟨_, hT2, rfl, _, rfl⟩⟩
    have I1 : Inv X pins σ (upd H s.heap.objs.size (.tup [.int (i : Nat), x])) { s with heap := h'', toks := tk + 1 } :=
      I.turnedNew (ch := [e, it]) (fun b ob hb q => (sb.2 b (fun z => hb (by simp [z]))).trans (hk b ob (fun z => hb (by simp [z])) (fun z => hb (by simp [z])) q)) hf (Nat.le_refl _) new
    refine ⟨.ref s.heap.objs.size, _, I1, rfl, ⟨_, x, rfl, I.hok.fresh (Nat.le_refl _), rfl, fun ys hy2 => ?_⟩, ⟨⟨y, ?_⟩, hst.1.at fun o q => (sb.2 it (Ne.symm hne)).trans q, hne, ?_⟩, fun b hb => ?_⟩
    · obtain ⟨its2, rv2, p2, _⟩ := I.tuple hy2
      obtain ⟨o1, g1, _, n1, d1⟩ := p
      obtain ⟨o2, g2, _, n2, d2⟩ := p2
      rw [g1] at g2; cases g2
      rw [d1] at d2
      injection d2 with d3
      have : its = its2 := by simpa using congrArg Array.toList d3
      subst this
      rw [Vals.inj rv2 rv]; exact hx
    · have e1 : ((i + 1 : Nat) : Int) = (i : Int) + 1 := by omega
      rw [e1]; exact he'
    · have : i < xs.length := (List.getElem?_eq_some_iff.mp hx).1
      omega
    · have hb' : b < s.heap.objs.size := by
        rcases List.mem_cons.mp hb with z | z
        · rw [z]; exact hel
        · rw [List.mem_singleton.mp z]; exact hil
      rw [upd_ne (Nat.ne_of_lt hb')]
      exact (hf b hb).1
  done := by
    intro X hP hw hK hc i pins s σ H E I hf st hg
    subst hP hw hK
    obtain ⟨⟨old, he⟩, hit, hne, hN⟩ := st
    obtain ⟨xs, hq, hlN, hx⟩ := hg
    obtain ⟨its, rv, p, hz⟩ := I.tuple hq
    obtain ⟨f0, f1, f2, f3, f4, f5⟩ := hf it (by simp)
    have hai : a ≠ it := by
      rintro rfl
      obtain ⟨o1, g1, c1, _⟩ := hit
      obtain ⟨o2, g2, c2, _⟩ := p
      rw [g1] at g2; cases g2
      rw [c1] at c2
      injection c2 with c3
      exact absurd c3 (by decide)
    have D := Draws.tuple (prog := X.prog) (w := X.w) (A := X.A.in1) (by simp [I.ok.hd hc]) it a hai its.toArray
    have hi : i = its.toArray.size := by
      rw [List.size_toArray, ← rv.length]; omega
    rw [hi] at hit
    exact wpAny_pyNext_enum_endD D he ⟨hit, p⟩ fun h' eb => ⟨rfl, I.turned (t' := s.toks) (fun b o hb q => eb b o hb q) f0 f1 f3 f4 f5⟩
  self := fun A i s Q E st h => let ⟨⟨_, he⟩, _⟩ := st; wpAny_pyIter_enum he h
/-- enumerate(v): what is asked of v's iterator -/
theorem meets_en {v : Value} {o : Obj} {Hh : Heap → Prop} (B : Begins v o Hh) :
    Meets (Builtin.«enumerate.__new__» ⟨[.type "enumerate", v], []⟩) (fun _ R s => Hh s.heap ∧
      R (.ok (.ret (.ref (s.heap.push o).objs.size))) { s with heap := (s.heap.push o).push { cls := .type "enumerate", data := .fields #[.none, .bool false, .ref s.heap.objs.size, rawInt 0, .none, .none] } }) :=
  .of_wp fun prog w A R s h => by
    obtain ⟨hp, g, d, tk, os⟩ := s
    obtain ⟨h1, h⟩ := h
    have hsub := sub_enumerate
    have q1 : ∀ {A' : Around} {E : Value → Shared → Prop} {Q : Value → Shared → Prop}, Q (.ref hp.objs.size) ⟨hp.push o, g, d, tk, os⟩ → wpAny (model prog w) A' (pyIter v) Q E ⟨hp, g, d, tk, os⟩ := fun q => B.iter prog w _ _ ⟨hp, g, d, tk, os⟩ _ h1 q
    wp_walk using q1
    refine wpAny_stack_any fun st => wpAny_pure ?_
    split
    · rename_i c _ _ _ _ _
      cases (c == Value.type "enumerate") <;> (wp_walk using q1; exact ⟨_, rfl, h⟩)
    · wp_walk using q1
      exact ⟨_, rfl, h⟩
section
variable {prog : Program} {w : World} {A : Around} {E : Value → Shared → Prop} {s : Shared}
theorem call_en {v : Value} {o : Obj} {Hh : Heap → Prop} {Q : Value → Shared → Prop} (B : Begins v o Hh) (h1 : Hh s.heap)
    (h : ∀ h', IsEnum h' (s.heap.objs.size + 1) s.heap.objs.size 0 .none → h'.get? s.heap.objs.size = some o → (∀ b o, s.heap.get? b = some o → h'.get? b = some o) → Q (.ref (s.heap.objs.size + 1)) { s with heap := h' }) :
    wpAny (model prog w) A (call (.type "enumerate") [v]) Q E s := by
  refine callType_new F.called_enumerate (by decide) (F.typeCall_enumerate_1 _) (F.newCall_enumerate_1 _) (fun obj => F.args_object_init_2 obj _) F.entry_enumerate_new (meets_en B) ⟨h1, ?_⟩
  have size : (s.heap.push o).objs.size = s.heap.objs.size + 1 := Heap.size_push ..
  show _ ∧ _
  rw [size]
  have he : IsEnum ((s.heap.push o).push { cls := .type "enumerate", data := .fields #[.none, .bool false, .ref s.heap.objs.size, rawInt 0, .none, .none] }) (s.heap.objs.size + 1) s.heap.objs.size 0 .none := by
    have q := Heap.get?_push_size (s.heap.push o) (o := { cls := .type "enumerate", data := .fields #[.none, .bool false, .ref s.heap.objs.size, rawInt 0, .none, .none] }) rfl
    rw [size] at q; exact q
  exact ⟨⟨_, he, rfl⟩, h _ he (Heap.get?_push_of_some _ (Heap.get?_push_size _ B.free)) fun b o x => Heap.get?_push_of_some _ (Heap.get?_push_of_some _ x)⟩
end
theorem itF_enumT {K : PySem.W.Frag} {F : Hp} {a : Addr} {vs : List V} {ds : List D} (ha : F a = some (.tup vs)) (r : RpAll F vs ds) : ItF (Iet K a vs.length) F (enumD ds) := by
  refine ⟨fun F2 H2 i s1 s2 hi => ?_, fun A2 F2 H2 i x H3 s1 s2 hi hy => ?_, fun F2 H2 i s1 s2 hi => ?_⟩
  · rw [enumD_len] at hi
    have hl : i < vs.length := by rw [r.length]; exact hi
    exact ⟨vs, vs[i], .inl (.inl (s2 _ _ (s1 _ _ ha))), rfl, List.getElem?_eq_getElem hl⟩
  · obtain ⟨T, y, rfl, hT, rfl, h⟩ := hy
    obtain ⟨d, e1, e2⟩ := r.getV (h vs (.inl (.inl (s2 _ _ (s1 _ _ ha)))))
    refine ⟨upd F2 T (.tup [.int (i : Nat), y]), _, .new s2 hT, keep_new hT, enumD_get e1, .tup upd_same ?_⟩
    exact .cons (.int _) (.cons ((e2.mono s1).mono (same_new (s2.free hT))) .nil)
  · rw [enumD_len] at hi
    exact ⟨vs, .inl (.inl (s2 _ _ (s1 _ _ ha))), rfl, by rw [r.length]; exact hi⟩
section
variable {X : Cx} {G : Cg} {a : Expr} {da : Ex} {pos p tpos : Pos} {elts : List Expr} {kk : Nat}
theorem pi_en {t : TA} (hg : Gl X "enumerate") (hm : X.mg "enumerate" = none) (h : PA X [a] t) (hs : starEach [a] X.env = [(false, eval a X.env)]) :
    PI X (.Tuple elts kk tpos) (.Call (.Name "enumerate" p) [a] [] pos) (fun σ H R => t σ H fun vs H1 => (∃ q xs, vs = [.ref q] ∧ SqL X.K H1 q xs ∧ R (Ite X.K q) H1) ∨ (∃ q xs, vs = [.ref q] ∧ SqT X.K H1 q xs ∧ R (Iet X.K q xs.length) H1)) := by
  refine ⟨fun pins s σ H R I hh => ?_⟩
  refine wpAny_Call_Name_kw (ld_blt I hg hm PyProof.Rows.boot_enumerate (PyProof.Rows.callWith_type1 (thn (h.run pos pins s σ H _ I hh) fun us s1 ⟨vs, H1, I1, r1, q1⟩ => ?_) hs rfl))
  rcases q1 with ⟨q, xs, ex, hq, k⟩ | ⟨q, xs, ex, hq, k⟩
  · subst ex
    rw [Vals.ref1 r1]
    obtain ⟨its, rv, pl, hz⟩ := I1.list hq
    refine call_en (begins_list q its.toArray) pl.isList fun h' he hit hk => wpAny_pyIter_enum he ?_
    refine ⟨s1.heap.objs.size + 1, [s1.heap.objs.size + 1, s1.heap.objs.size], _, _, H1, rfl, I1.kept (t' := s1.toks) hk, turn_enum q (s1.heap.objs.size + 1) s1.heap.objs.size, ⟨⟨.none, he⟩, ⟨_, hit, rfl, rfl⟩, Nat.succ_ne_self _⟩, fun b hb => ?_, k⟩
    have hle : s1.heap.objs.size ≤ b := by
      rcases List.mem_cons.mp hb with z | z
      · rw [z]; exact Nat.le_succ _
      · rw [List.mem_singleton.mp z]; exact Nat.le_refl _
    exact I1.fpOk hle (I1.hok.fresh hle)
  · subst ex
    rw [Vals.ref1 r1]
    obtain ⟨its, rv, pl, hz⟩ := I1.tuple hq
    refine call_en (begins_tuple q its.toArray) pl fun h' he hit hk => wpAny_pyIter_enum he ?_
    refine ⟨s1.heap.objs.size + 1, [s1.heap.objs.size + 1, s1.heap.objs.size], _, _, H1, rfl, I1.kept (t' := s1.toks) hk, turn_en q (s1.heap.objs.size + 1) s1.heap.objs.size xs.length, ⟨⟨.none, he⟩, ⟨_, hit, rfl, rfl⟩, Nat.succ_ne_self _, Nat.zero_le _⟩, fun b hb => ?_, k⟩
    have hle : s1.heap.objs.size ≤ b := by
      rcases List.mem_cons.mp hb with z | z
      · rw [z]; exact Nat.le_succ _
      · rw [List.mem_singleton.mp z]; exact Nat.le_refl _
    exact I1.fpOk hle (I1.hok.fresh hle)
theorem pid_enum {frz : Bool} (hg : Gl X "enumerate") (hm : X.mg "enumerate" = none) (h : PE X a (tD G da)) (hs : starEach [a] X.env = [(false, eval a X.env)]) :
    PI X (.Tuple elts kk tpos) (.Call (.Name "enumerate" p) [a] [] pos) (tI G frz (iEnum da)) := by
  refine piI (pi_en hg hm (pa_cons h pa_nil (by rw [hs]; rfl)) hs) fun σ H R q => ?_
  obtain ⟨A, F, r, w, x, w', rel, e, post⟩ := q
  unfold iEnum at e
  cases h1 : da G.c r w with
  | none => rw [h1] at e; cases e
  | some pr =>
    obtain ⟨x1, w1⟩ := pr
    rw [h1] at e
    cases x1 with
    | exc y => cases e; exact ⟨A, F, r, w, .exc y, _, rel, h1, post⟩
    | val d =>
      simp only at e
      rw [Option.map_eq_some_iff] at e
      obtain ⟨ds, hi, e⟩ := e
      cases e
      refine ⟨A, F, r, w, .val d, _, rel, h1, fun v A1 F1 H1 s1 o1 r1 => ?_⟩
      have fin : ∀ {J : It}, ItF J F1 (enumD ds) → R J H1 := fun hit => post _ A1 F1 H1 s1 o1 (by
        split
        · exact hit
        · exact hit.s)
      rcases items_some hi with rfl | rfl
      · have r2 := r1.plain rfl
        cases r2 with
        | lst ha hr => exact .inl ⟨_, _, rfl, .inl (.inl (s1.fh _ _ ha)), fin (itF_enumL ha hr)⟩
      · have r2 := r1.plain rfl
        cases r2 with
        | tup ha hr => exact .inr ⟨_, _, rfl, .inl (.inl (s1.fh _ _ ha)), fin (itF_enumT ha hr)⟩
end
end Rx

set_option Elab.async false
set_option linter.all false
set_option maxRecDepth 100000
set_option maxHeartbeats 1000000
set_option autoImplicit false
/-! RxS27: t[::-1]; `except x as e: return isinstance(e, ValueError)`. -/
namespace HT
open PySem PySem.Spec PyProof.Rows
section
variable {prog : Program} {w : World} {A : Around} {E : Value → Shared → Prop} {s : Shared}
theorem rx_adjust (n : Nat) : Builtin.Slice.sliceAdjust none none (-1) (n : Int) = ((n : Int) - 1, -1) := by
  unfold Builtin.Slice.sliceAdjust
  simp
theorem rx_places (n : Nat) : Builtin.Slice.slicePlaces ((n : Int) - 1) (-1) (-1) = n := by
  unfold Builtin.Slice.slicePlaces
  have h1 : ¬ ((-1 : Int) > 0) := by omega
  simp only [h1, if_false]
  split
  · simp
  · omega
theorem rx_all {α : Type} : ∀ (l : List α), (List.range l.length).filterMap (fun m => l[m]?) = l := fun l => by
  induction l with
  | nil => rfl
  | cons x l ih =>
    rw [List.length_cons, List.range_succ_eq_map, List.filterMap_cons]
    simp only [List.getElem?_cons_zero, List.filterMap_map]
    congr 1
theorem rx_fm {α β : Type} {f g : α → Option β} : ∀ {l : List α}, (∀ x ∈ l, f x = g x) → l.filterMap f = l.filterMap g
  | [], _ => rfl
  | x :: l, h => by rw [List.filterMap_cons, List.filterMap_cons, h x List.mem_cons_self, rx_fm fun y hy => h y (List.mem_cons_of_mem _ hy)]
theorem rx_pick (xs : Array Value) : ((List.range xs.size).filterMap fun (m : Nat) => xs[(((xs.size : Int) - 1) + (m : Int) * (-1)).toNat]?).toArray = xs.toList.reverse.toArray := by
  have e : (List.range xs.size).filterMap (fun (m : Nat) => xs[(((xs.size : Int) - 1) + (m : Int) * (-1)).toNat]?) = (List.range xs.toList.reverse.length).filterMap (fun m => xs.toList.reverse[m]?) := by
    rw [List.length_reverse, Array.length_toList]
    apply rx_fm
    intro m hm
    have hm := List.mem_range.mp hm
    have h2 : (((xs.size : Int) - 1) + ((m : Nat) : Int) * (-1)).toNat = xs.size - 1 - m := by omega
    rw [h2, List.getElem?_reverse (by rw [Array.length_toList]; exact hm), Array.length_toList, Array.getElem?_toList]
  rw [e, rx_all]
theorem sliceApplied_rev {sl : Addr} {vs : Value} {n : Nat} {Q : Int × Int × Nat → Shared → Prop} (hs : s.heap.IsSliceOf sl .none .none vs) (ps : IsPart vs (some (-1)))
    (h : Q ((n : Int) - 1, -1, n) s) : wpAny (model prog w) A (Builtin.Slice.sliceApplied (.ref sl) (pure (n : Int))) Q E s := by
  obtain ⟨os, hos, hcs, hds⟩ := id hs
  unfold Builtin.Slice.sliceApplied Builtin.Slice.sliceFields
  refine wpAny_bind (wpAny_bind (wpAny_field hos hds (x := .none) rfl (wpAny_bind (wpAny_field hos hds (x := .none) rfl (wpAny_bind (wpAny_field hos hds (x := vs) rfl (wpAny_pure ?_)))))))
  refine wpAny_bind (slicePart_ ps ?_)
  show wpAny _ _ (if ((-1 : Int) == 0) = true then _ else _) _ _ s
  rw [if_neg (by decide)]
  refine wpAny_bind (slicePart_none (wpAny_bind (slicePart_none (wpAny_bind (wpAny_pure ?_)))))
  show wpAny _ _ (match Builtin.Slice.sliceAdjust none none (-1) (n : Int) with | (lo, hi) => pure (lo, (-1 : Int), Builtin.Slice.slicePlaces lo hi (-1))) _ _ s
  rw [rx_adjust]
  show wpAny _ _ (pure ((n : Int) - 1, (-1 : Int), Builtin.Slice.slicePlaces ((n : Int) - 1) (-1) (-1))) _ _ s
  rw [rx_places]
  exact wpAny_pure h
theorem getItem_tuple_rev {t sl : Addr} {items : Array Value} {vs : Value} {Q : Value → Shared → Prop} (ht : IsTup s.heap t items) (hs : s.heap.IsSliceOf sl .none .none vs) (ps : IsPart vs (some (-1)))
    (h : Q (.ref s.heap.objs.size) { s with heap := s.heap.push { cls := .type "tuple", data := .seq items.toList.reverse.toArray } })
    (hsz : items.size ≤ sizeLine) : wpAny (model prog w) A (getItem (.ref t) (.ref sl)) Q E s := by
  have htake : sizeOk (.seq items.toList.reverse.toArray) := by
    show items.toList.reverse.toArray.size ≤ sizeLine
    rw [List.size_toArray, List.length_reverse, Array.length_toList]
    exact hsz
  obtain ⟨os, hos, hcs, hds⟩ := id hs
  have hTs : s.TypeIs (.ref sl) "slice" := ⟨os, hos, hcs⟩
  unfold getItem
  try with_reducible refine wpAny_holding ?_
  first | refine wpAny_bind (wpAny_pure ?_) | skip
  refine wpAny_bind (wpAny_sequenceKey ht.typeIs (by decide) ?_)
  refine wpAny_bind (wpAny_callSpecial?_slot (name := Str.ofString "__getitem__") ht.typeIs PyProof.Rows.slot_tuple_getitem
    (wpAny_call_entry PyProof.Rows.slot_tuple_getitem ht.typeIs entry_tuple_getitem ?_ (args_tuple_getitem _ _)))
  show wpAny _ _ (Builtin.Tuple.tupleItemsOf (.ref t) >>= _) _ _ s
  refine wpAny_bind (tupleItemsOf_ ht ?_)
  refine wpAny_bind (wpAny_typeOf hTs ?_)
  rw [if_pos (by decide)]
  refine wpAny_bind (sliceApplied_rev hs ps ?_)
  have hno : ¬ (((((items.size : Nat) : Int) - 1) == 0 && (-1 : Int) == 1 && items.size == items.size) = true) := by
    intro q
    rw [Bool.and_eq_true, Bool.and_eq_true] at q
    exact absurd q.1.2 (by decide)
  show wpAny _ _ (if ((((items.size : Nat) : Int) - 1) == 0 && (-1 : Int) == 1 && items.size == items.size) = true then _ else _) _ _ s
  rw [if_neg hno, rx_pick]
  first
    | exact wpAny_bind (m := Builtin.Tuple.tupleExact _) (wpAny_newObj_type (wpAny_pure ⟨_, rfl, wpAny_pure h⟩) htake)
    | exact wpAny_bind (m := Builtin.Tuple.tupleExact _) (wpAny_newObj_type (wpAny_bind (wpAny_pure (wpAny_pure ⟨_, rfl, wpAny_pure h⟩))) htake)
    | exact wpAny_bind (wpAny_bind (m := Builtin.Tuple.tupleExact _) (wpAny_newObj_type (wpAny_pure (wpAny_pure ⟨_, rfl, wpAny_pure h⟩)) htake))
    | exact wpAny_bind (wpAny_bind (m := Builtin.Tuple.tupleExact _) (wpAny_newObj_type (wpAny_pure ⟨_, rfl, wpAny_pure h⟩) htake))
end
end HT
namespace L2
open PySem PySem.Spec PyProof.Rows
section
variable {X : Cx}
/-- x[::-1], a list or a tuple -/
def tRevA (K : PySem.W.Frag) (te : TE) : TE := fun σ H Q => te σ H fun x H1 => ∃ a xs, x = .ref a ∧ ((SqL K H1 a xs ∧ ∀ p, H1 p = none → Q (.ref p) (upd H1 p (.lst xs.reverse))) ∨ (SqT K H1 a xs ∧ ∀ p, H1 p = none → Q (.ref p) (upd H1 p (.tup xs.reverse))))
theorem pe_revA {e : Expr} {te : TE} {k : Nat} {p1 p2 p3 pos : Pos} (he : PE X e te) : PE X (.Subscript e (.Slice none none (some (.UnaryOp .USub (.Constant (.int 1) k p1) p2)) p3) pos) (tRevA X.K te) := by
  refine ⟨fun pins s σ H Q I h => ?_⟩
  refine Subscript_ (thn (he.run pins s σ H _ I h) fun v s1 ⟨x, H1, I1, r1, q1⟩ => ?_)
  obtain ⟨a, xs, ex, hx⟩ := q1
  subst ex
  cases r1
  have hst : PO X (some (.UnaryOp .USub (.Constant (.int 1) k p1) p2)) (tPart (tUn (rU fun i => .int (-i)) (tC (.int 1)))) := po_some (pe_un un_neg pe_int)
  refine wpAny_Slice (thn (po_none.run pins s1 σ H1 (fun o H2 => o = none ∧ H2 = H1) I1 ⟨rfl, rfl⟩) fun vl s2 ⟨l, H2, I2, pl, el, e2⟩ => ?_)
  subst el e2
  refine thn (po_none.run pins s2 σ H2 (fun o H3 => o = none ∧ H3 = H2) I2 ⟨rfl, rfl⟩) fun vu s3 ⟨u, H3, I3, pu, eu, e3⟩ => ?_
  subst eu e3
  refine thn (hst.run pins s3 σ H3 (fun o H4 => o = some (-1) ∧ H4 = H3) I3 ⟨1, rfl, -1, rfl, rfl, rfl⟩) fun vs s4 ⟨o, H4, I4, ps, eo, e4⟩ => ?_
  subst eo e4
  have I5 : Inv X pins σ H4 { s4 with heap := s4.heap.push { cls := .type "slice", data := .fields #[vl, vu, vs] } } := I4.kept (t' := s4.toks) fun b ob q => Heap.get?_push_of_some _ q
  rcases hx with ⟨hx, q⟩ | ⟨hx, q⟩
  · obtain ⟨its, r, ht, hz⟩ := I5.list hx
    have hlen := r.length
    show wpAny (model X.prog X.w) X.A (subscriptTail e (.Slice none none (some (.UnaryOp .USub (.Constant (.int 1) k p1) p2)) p3) (.ref a) (.ref s4.heap.objs.size)) (EP X pins σ Q) X.xe { s4 with heap := s4.heap.push { cls := .type "slice", data := .fields #[vl, vu, vs] } }
    refine tail_any (ops := [.ref a, .ref s4.heap.objs.size]) ht.isList.typeIs (PySem.slot_list_getitem.lookup) ?_ (by with_unfolding_all rfl)
    refine wpAny_getItem_list_slice ht.isList (Heap.IsSliceOf.new _ vl vu vs) pl pu ps (by decide) ?_ (by rw [List.size_toArray]; omega)
    rw [PySem.W.krv_pick]
    refine ⟨.ref _, _, I5.laid (t' := s4.toks) (o := .lst xs.reverse) (fun b ob q => Heap.get?_push_of_some _ q) (Nat.le_refl _) ?_, rfl, q _ (I5.hok.fresh (Nat.le_refl _))⟩
    exact ⟨by rw [List.length_reverse]; exact hz, _, 0, r.reverse, Heap.get?_push_size _ rfl⟩
  · obtain ⟨its, r, ht, hz⟩ := I5.tuple hx
    have hlen := r.length
    cases pl
    cases pu
    show wpAny (model X.prog X.w) X.A (subscriptTail e (.Slice none none (some (.UnaryOp .USub (.Constant (.int 1) k p1) p2)) p3) (.ref a) (.ref s4.heap.objs.size)) (EP X pins σ Q) X.xe { s4 with heap := s4.heap.push { cls := .type "slice", data := .fields #[.none, .none, vs] } }
    refine tail_any (ops := [.ref a, .ref s4.heap.objs.size]) ht.typeIs (PyProof.Rows.slot_tuple_getitem.lookup) ?_ (by with_unfolding_all rfl)
    refine HT.getItem_tuple_rev ht (Heap.IsSliceOf.new _ .none .none vs) ps ?_ (by rw [List.size_toArray]; omega)
    refine ⟨.ref _, _, I5.laid (t' := s4.toks) (o := .tup xs.reverse) (fun b ob q => Heap.get?_push_of_some _ q) (Nat.le_refl _) ?_, rfl, q _ (I5.hok.fresh (Nat.le_refl _))⟩
    exact ⟨by rw [List.length_reverse]; exact hz, _, r.reverse, IsTup.new _ _⟩
end
end L2
namespace Rx
open PySem L2
section
variable {X : Cx} {G : Cg} {a b : Expr} {da db : Ex} {pos : Pos} {xs : List (Nat × Str)}
theorem pd_rev {k : Nat} {p1 p2 p3 : Pos} (hK : G.K = X.K) (ha : PE X a (tO G da)) : PE X (.Subscript a (.Slice none none (some (.UnaryOp .USub (.Constant (.int 1) k p1) p2)) p3) pos) (tD G (dPrim .rev (dCons da dNil))) :=
  peI (pe_revA ha) fun σ H Q h => tO_imp (args1 (prim_args h)) fun x H1 k => by
    obtain ⟨A, F, w, ds, d, s, o, ro, e, f⟩ := k
    obtain ⟨d1, rfl, r1⟩ := RoAll1 ro
    replace e : revP d1 = some d := e
    unfold revP at e
    split at e
    · cases e
      obtain ⟨a1, v1, rfl, f1, q1⟩ := r1.tup
      exact ⟨a1, v1, rfl, .inr ⟨.inl (.inl (s _ _ f1)), fun p hp => f.tup s o hp q1.reverse⟩⟩
    · cases e
      obtain ⟨a1, v1, rfl, f1, q1⟩ := r1.lst s
      exact ⟨a1, v1, rfl, .inl ⟨.inl (.inl f1), fun p hp => f.lst s o hp q1.reverse⟩⟩
    · cases e
end
end Rx

set_option Elab.async false
set_option linter.all false
set_option maxRecDepth 100000
set_option maxHeartbeats 3200000
set_option autoImplicit false
/-! RxS34: set(xs), xs a list of rows (tuples of pairs of ints) no two of which hash alike; up to 300 of them. -/
namespace L2
open PySem PySem.Spec PyProof.Rows
/-! ### the masks up to 511 -/
def Fl (m : Nat) : Prop := m = 7 ∨ m = 31 ∨ m = 127 ∨ m = 511
def orbL : Nat → Nat → List Nat
  | 0, _ => []
  | k + 1, x => x :: orbL k ((x * 5 + 1) % 512)
theorem lcgI_sh (i : Nat) : ∀ k, lcgI 511 ((i * 5 + 1) % 512) k = lcgI 511 i (k + 1)
  | 0 => rfl
  | k + 1 => by
    show (lcgI 511 ((i * 5 + 1) % 512) k * 5 + 1) % 512 = (lcgI 511 i (k + 1) * 5 + 1) % 512
    rw [lcgI_sh i k]
theorem orb_mem {j : Nat} : ∀ (n x : Nat), j ∈ orbL n x → ∃ k, k < n ∧ lcgI 511 x k = j
  | 0, _, h => by cases h
  | n + 1, x, h => by
    rcases List.mem_cons.mp h with e | h
    · exact ⟨0, Nat.succ_pos _, e.symm⟩
    · obtain ⟨k, hk, e⟩ := orb_mem n _ h
      exact ⟨k + 1, Nat.succ_lt_succ hk, by rw [← lcgI_sh]; exact e⟩
theorem orb_all : ((List.range 512).all fun j => (orbL 512 0).contains j) = true := by decide +kernel
theorem lcgI_add (m i a : Nat) : ∀ k, lcgI m (lcgI m i a) k = lcgI m i (a + k)
  | 0 => rfl
  | k + 1 => by
    show (lcgI m (lcgI m i a) k * 5 + 1) % (m + 1) = (lcgI m i (a + k) * 5 + 1) % (m + 1)
    rw [lcgI_add m i a k]
theorem lcgI_511 : lcgI 511 0 512 = 0 := by decide +kernel
theorem from0 {j : Nat} (h : j ≤ 511) : ∃ k, k < 512 ∧ lcgI 511 0 k = j :=
  orb_mem 512 0 (List.contains_iff_mem.mp (List.all_eq_true.mp orb_all j (List.mem_range.mpr (Nat.lt_succ_of_le h))))
theorem all511 {i j : Nat} (hi : i ≤ 511) (hj : j ≤ 511) : ∃ k, k ≤ 511 ∧ lcgI 511 i k = j := by
  obtain ⟨a, ha, rfl⟩ := from0 hi
  obtain ⟨b, hb, rfl⟩ := from0 hj
  rcases Nat.lt_or_ge b a with c | c
  · refine ⟨512 - a + b, by omega, ?_⟩
    rw [lcgI_add, show a + (512 - a + b) = 512 + b by omega, ← lcgI_add 511 0 512 b, lcgI_511]
  · refine ⟨b - a, by omega, ?_⟩
    rw [lcgI_add, show a + (b - a) = b by omega]
theorem meetsF {m : Nat} (hm : Fl m) (h : Int) {j : Nat} (hj : j ≤ m) : ∃ n, n ≤ m + 12 ∧ runI m (SetTable.bits h) n = j := by
  rcases hm with e | e | e | e
  · exact run_meets (.inl e) h hj
  · exact run_meets (.inr (.inl e)) h hj
  · exact run_meets (.inr (.inr e)) h hj
  · subst e
    obtain ⟨k, hk, e⟩ := all511 (runI_le 511 (SetTable.bits h) 12) hj
    exact ⟨12 + k, by omega, by rw [runI_tail (bits_lt h)]; exact e⟩
theorem way_in (m : Nat) (h : Int) (k : Nat) : way m h k ≤ m := by
  have r := runEnd_bd (m := m) (i := SetTable.bits h % (m + 1)) (Nat.le_of_lt_succ (Nat.mod_lt _ (Nat.succ_pos _)))
  have q := nth_in (m := m) k (runAt m (SetTable.bits h % (m + 1)) (SetTable.bits h)) (by unfold runAt; simp only; omega)
  exact Nat.le_trans (Nat.le_add_right _ _) q
theorem fl_odd {m : Nat} (h : Fl m) : m % 2 = 1 := by rcases h with e | e | e | e <;> subst e <;> rfl
/-- a table whose slots all are found again from their hashes -/
structure TabF (t : SetTable) (hs : List Int) : Prop where
  ris : Ris t.place.toList
  dm : t.dummies = #[]
  sz : t.place.size = hs.length
  fl : Fl t.mask
  reach : ∀ (i : Nat) (h : Int) (j : Nat), hs[i]? = some h → t.place.toList[i]? = some j → ∃ k, way t.mask h k = j ∧ ∀ k', k' < k → way t.mask h k' ∈ t.place.toList
/-- a probe: the entry of the hash, or the first empty slot of the way -/
theorem probeF {t : SetTable} {hs : List Int} (T : TabF t hs) (hl : hs.length ≤ t.mask) {hashAt : Nat → Int} (ha : ∀ i h, hs[i]? = some h → hashAt i = h) (h : Int) :
    (h ∉ hs → ∃ K, way t.mask h K ∉ t.place.toList ∧ (∀ k, k < K → way t.mask h k ∈ t.place.toList) ∧ t.probe hashAt h (t.probeStart h) = some (.empty (way t.mask h K) none)) ∧
    (h ∈ hs → ∃ i j next, hs[i]? = some h ∧ t.probe hashAt h (t.probeStart h) = some (.candidate j i next)) := by
  obtain ⟨j, hj, hn⟩ := st_missing t.place.toList (t.mask + 1) (by rw [Array.length_toList, T.sz]; omega)
  obtain ⟨n, hn2, e⟩ := meetsF T.fl h (Nat.le_of_lt_succ hj)
  obtain ⟨k, hk, e2⟩ := run_nth t.mask (SetTable.bits h) n
  have wk : way t.mask h k = j := by show (nth _ _ k).j = j; rw [e2]; exact e
  obtain ⟨K, k1, k2, k3⟩ := st_least (p := fun k => way t.mask h k ∉ t.place.toList) k (by show way t.mask h k ∉ _; rw [wk]; exact hn)
  have hb : ∀ c, c < K → way t.mask h c ∈ t.place.toList := fun c hc => Classical.byContradiction fun z => k3 c hc z
  have at_ : ∀ i, i < t.place.toList.length → ∃ h', hs[i]? = some h' := fun i hi => by
    rw [Array.length_toList, T.sz] at hi
    exact ⟨hs[i], List.getElem?_eq_getElem hi⟩
  rcases go_spec t T.ris T.dm hashAt h (10 * SetTable.turns t.mask) K (t.probeStart h) rfl (by unfold SetTable.turns; omega) hb k2 with ⟨c, i, hc, hi, hh, _, hp⟩ | ⟨hno, z⟩
  · obtain ⟨h', hi'⟩ := at_ i (List.getElem?_eq_some_iff.mp hi).1
    have : h' = h := (ha i h' hi').symm.trans hh
    subst this
    exact ⟨fun hq => absurd (List.mem_of_getElem? hi') hq, fun _ => ⟨i, _, _, hi', hp⟩⟩
  · refine ⟨fun _ => ⟨K, k2, hb, z⟩, fun hm => ?_⟩
    exfalso
    obtain ⟨i0, hi0⟩ := List.getElem?_of_mem hm
    have hl0 : i0 < t.place.toList.length := by rw [Array.length_toList, T.sz]; exact (List.getElem?_eq_some_iff.mp hi0).1
    have hj0 := List.getElem?_eq_getElem hl0
    obtain ⟨k0, e0, b0⟩ := T.reach i0 h _ hi0 hj0
    have hk0 : k0 < K := by
      rcases Nat.lt_trichotomy k0 K with q | q | q
      · exact q
      · rw [q] at e0
        exact absurd (by rw [e0]; exact List.mem_of_getElem? hj0) k2
      · exact absurd (b0 K q) k2
    exact hno k0 i0 hk0 (by rw [hj0]; exact congrArg some e0.symm) (ha i0 h hi0)
theorem putTF {t : SetTable} {hs : List Int} (T : TabF t hs) {h : Int} {K : Nat} (hK : way t.mask h K ∉ t.place.toList) (hb : ∀ k, k < K → way t.mask h k ∈ t.place.toList) :
    SetTable.below t.place (way t.mask h K) ≤ hs.length ∧ TabF (t.put (way t.mask h K)).1 (hs.take (SetTable.below t.place (way t.mask h K)) ++ h :: hs.drop (SetTable.below t.place (way t.mask h K))) := by
  generalize hj : way t.mask h K = j at hK ⊢
  have c1 := (below_cut T.ris j).1
  have hph : SetTable.below t.place j ≤ hs.length := by rw [← T.sz]; exact c1
  have hpl : SetTable.below t.place j ≤ t.place.toList.length := by rw [Array.length_toList]; exact c1
  have hnp : t.place[SetTable.below t.place j]? ≠ some j := fun e => hK (List.mem_of_getElem? (by rw [Array.getElem?_toList]; exact e))
  have hpp := put_place t j
  have up : ∀ {x : Nat}, x ∈ t.place.toList → x ∈ (t.put j).1.place.toList := fun {x} hx => by rw [hpp]; exact mem_ins.2 (.inr hx)
  refine ⟨hph, ris_insert T.ris hnp, put_dm T.dm j, ?_, T.fl, fun i h' j' h1 h2 => ?_⟩
  · rw [← Array.length_toList, hpp, len_ins _ hpl, len_ins _ hph, Array.length_toList, T.sz]
  · rw [tins_get hs hph] at h1
    rw [hpp, tins_get _ hpl] at h2
    show ∃ k, way t.mask h' k = j' ∧ ∀ k', k' < k → way t.mask h' k' ∈ (t.put j).1.place.toList
    by_cases c : i < SetTable.below t.place j
    · rw [if_pos c] at h1 h2
      obtain ⟨k, e, z⟩ := T.reach i h' j' h1 h2
      exact ⟨k, e, fun k' hk' => up (z k' hk')⟩
    · rw [if_neg c] at h1 h2
      by_cases d : i = SetTable.below t.place j
      · rw [if_pos d] at h1 h2
        cases h1
        cases h2
        exact ⟨K, hj, fun k' hk' => up (hb k' hk')⟩
      · rw [if_neg d] at h1 h2
        obtain ⟨k, e, z⟩ := T.reach (i - 1) h' j' h1 h2
        exact ⟨k, e, fun k' hk' => up (z k' hk')⟩
/-! ### the table laid anew -/
/-- who sits where, when k have been laid -/
structure Sit (m : Nat) (done : List Int) (owner : Array (Option Nat)) : Prop where
  sz : owner.size = m + 1
  all : ∀ i, i < done.length → ∃ j, j ≤ m ∧ oAt owner j = some i
  ps : ∃ ps : List Nat, ps.length = done.length ∧ ∀ j, j ≤ m → oAt owner j ≠ none → j ∈ ps
  at_ : ∀ j i, j ≤ m → oAt owner j = some i → ∃ h K, done[i]? = some h ∧ way m h K = j ∧ ∀ c, c < K → oAt owner (way m h c) ≠ none
theorem sit_step {m : Nat} (hm : Fl m) {done : List Int} {owner : Array (Option Nat)} (W : Sit m done owner) (hl : done.length ≤ m) (h : Int) :
    ∃ j, SetTable.layClean.free m owner (SetTable.turns m) (SetTable.bits h % (m + 1)) (SetTable.bits h) = some j ∧ Sit m (done ++ [h]) (owner.setIfInBounds j (some done.length)) := by
  obtain ⟨ps, hps, hin⟩ := W.ps
  obtain ⟨j0, h0, hn0⟩ := st_missing ps (m + 1) (by omega)
  have hj0 : oAt owner j0 = none := Classical.byContradiction fun z => hn0 (hin j0 (Nat.le_of_lt_succ h0) z)
  obtain ⟨n, hn, e⟩ := meetsF hm h (Nat.le_of_lt_succ h0)
  have hw : way m h (off m (SetTable.bits h % (m + 1)) (SetTable.bits h) n) = j0 := by
    show (nth _ _ _).j = j0
    rw [nth_off, itL_run]
    exact e
  obtain ⟨K, k1, k2, k3⟩ := st_least (p := fun c => oAt owner (way m h c) = none) _ (show oAt owner (way m h (off m (SetTable.bits h % (m + 1)) (SetTable.bits h) n)) = none by rw [hw]; exact hj0)
  have hjs : way m h K < owner.size := by rw [W.sz]; exact Nat.lt_succ_of_le (way_in m h K)
  refine ⟨way m h K, free_spec m owner (SetTable.turns m) n _ _ K (by unfold SetTable.turns; omega) k1 (fun c hc => ?_) ?_, ?_⟩
  · have q := k3 c hc
    show (oAt owner (way m h c)).isNone = false
    cases z : oAt owner (way m h c) with
    | none => exact absurd z q
    | some _ => rfl
  · show (oAt owner (way m h K)).isNone = true
    rw [k2]; rfl
  · have hself := oAt_set_self (some done.length) hjs
    have mono : ∀ {i : Nat}, oAt owner i ≠ none → oAt (owner.setIfInBounds (way m h K) (some done.length)) i ≠ none := fun {i} hi => by
      by_cases c : i = way m h K
      · rw [c, hself]; exact fun z => nomatch z
      · rw [oAt_set_ne _ c]; exact hi
    refine ⟨by rw [Array.size_setIfInBounds]; exact W.sz, fun i hi => ?_, ⟨way m h K :: ps, by rw [List.length_cons, hps, List.length_append]; rfl, fun j hj z => ?_⟩, fun j i hj e => ?_⟩
    · rw [List.length_append, List.length_singleton] at hi
      rcases Nat.lt_succ_iff_lt_or_eq.mp hi with c | c
      · obtain ⟨j, hj, ej⟩ := W.all i c
        refine ⟨j, hj, ?_⟩
        rw [oAt_set_ne _ (fun y => by rw [y, k2] at ej; cases ej)]
        exact ej
      · exact ⟨way m h K, way_in m h K, by rw [c]; exact hself⟩
    · by_cases c : j = way m h K
      · rw [c]; exact List.mem_cons_self
      · rw [oAt_set_ne _ c] at z
        exact List.mem_cons_of_mem _ (hin j hj z)
    · by_cases c : j = way m h K
      · rw [c, hself] at e
        cases e
        exact ⟨h, K, by rw [List.getElem?_append_right (Nat.le_refl _), Nat.sub_self]; rfl, c.symm, fun c' hc' => mono (k3 c' hc')⟩
      · rw [oAt_set_ne _ c] at e
        obtain ⟨h', K', a1, a2, a3⟩ := W.at_ j i hj e
        exact ⟨h', K', by rw [List.getElem?_append_left (List.getElem?_eq_some_iff.mp a1).1]; exact a1, a2, fun c' hc' => mono (a3 c' hc')⟩
theorem sit_all {m : Nat} (hm : Fl m) : ∀ (hs done : List Int) (owner : Array (Option Nat)), Sit m done owner → done.length + hs.length ≤ m → ∃ owner' k, hs.foldl (stepF m) (some (owner, done.length)) = some (owner', k) ∧ Sit m (done ++ hs) owner'
  | [], done, owner, W, _ => ⟨owner, _, rfl, by rw [List.append_nil]; exact W⟩
  | h :: hs, done, owner, W, hl => by
    rw [List.length_cons] at hl
    obtain ⟨j, e, W1⟩ := sit_step hm W (by omega) h
    obtain ⟨o2, k, f, W2⟩ := sit_all hm hs (done ++ [h]) _ W1 (by rw [List.length_append, List.length_singleton]; omega)
    rw [List.length_append, List.length_singleton] at f
    refine ⟨o2, k, by rw [List.foldl_cons, stepF_some e]; exact f, ?_⟩
    rw [List.append_assoc] at W2
    exact W2
theorem relaidF (t : SetTable) {hs : Array Int} {wanted M : Nat} (hw : SetTable.sizeAbove wanted - 1 = M) (hM : Fl M) (hn : hs.size ≤ M) :
    ∃ t' order, t.relaid hs wanted = some (t', order) ∧ order.toList.Perm (List.range hs.size) ∧ TabF t' (order.toList.map fun i => hs.getD i 0) ∧ t'.mask = M ∧ t'.led = t.led ∧ t'.plain = t.plain := by
  obtain ⟨owner, k, f, W⟩ := sit_all hM hs.toList [] (Array.replicate (M + 1) none) ⟨by simp, fun i hi => (by cases hi), ⟨[], rfl, fun j hj z => absurd (oAt_init hj) z⟩, fun j i hj e => by rw [oAt_init hj] at e; cases e⟩ (by rw [Array.length_toList]; show 0 + hs.size ≤ M; omega)
  rw [List.nil_append] at W
  have hr : t.relaid hs wanted = some (tabOf t M owner, ((liveOf M owner).map (·.2)).toArray) := by
    rw [relaid_eq, hw, layClean_eq]
    rw [show (0 : Nat) = ([] : List Int).length from rfl, f]; rfl
  have ris := (relaid_ris hr).1
  have nd : ((liveOf M owner).map (·.1)).Nodup := List.Pairwise.imp (fun h => Nat.ne_of_lt h) (show Ris ((liveOf M owner).map (·.1)) from ris)
  have hall : ∀ k, k < hs.size → k ∈ (liveOf M owner).map (·.2) := fun k hk => by
    obtain ⟨j, b1, b2⟩ := W.all k (by rw [Array.length_toList]; exact hk)
    exact List.mem_map.mpr ⟨(j, k), (mem_live W.sz).2 ⟨b1, b2⟩, rfl⟩
  have hlen : (liveOf M owner).length = hs.size := by
    obtain ⟨ps, p1, p2⟩ := W.ps
    have a := nat_nodup_len _ ps nd fun x hx => by
      obtain ⟨⟨y, k⟩, hq, rfl⟩ := List.mem_map.mp hx
      obtain ⟨b1, b2⟩ := (mem_live W.sz).1 hq
      exact p2 y b1 (by rw [b2]; exact fun z => nomatch z)
    have b := nat_nodup_len (List.range hs.size) ((liveOf M owner).map (·.2)) List.nodup_range fun k hk => hall k (List.mem_range.mp hk)
    have e3 : hs.toList.length = hs.size := Array.length_toList
    rw [List.length_map, p1] at a
    rw [List.length_map, List.length_range] at b
    omega
  refine ⟨_, _, hr, perm_range hs.size _ (by show ((liveOf M owner).map (·.2)).length = _; rw [List.length_map, hlen]) hall, ⟨ris, rfl, ?_, hM, fun i h j h1 h2 => ?_⟩, rfl, rfl, rfl⟩
  · show ((liveOf M owner).map (·.1)).toArray.size = (((liveOf M owner).map (·.2)).map _).length
    rw [List.size_toArray, List.length_map, List.length_map, List.length_map]
  · have h1' : (((liveOf M owner).map (·.2)).map fun i => hs.getD i 0)[i]? = some h := h1
    have h2' : ((liveOf M owner).map (·.1))[i]? = some j := h2
    rw [List.getElem?_map, List.getElem?_map] at h1'
    rw [List.getElem?_map] at h2'
    cases hq : (liveOf M owner)[i]? with
    | none => rw [hq] at h2'; cases h2'
    | some q =>
      obtain ⟨y, k⟩ := q
      rw [hq] at h1' h2'
      cases h2'
      have eh : hs.getD k 0 = h := Option.some.inj h1'
      obtain ⟨b1, b2⟩ := (mem_live W.sz).1 (List.mem_of_getElem? hq)
      obtain ⟨h0, K, a1, a2, a3⟩ := W.at_ y k b1 b2
      have e0 : hs.getD k 0 = h0 := by rw [Array.getD_eq_getD_getElem?, ← Array.getElem?_toList, a1]; rfl
      have : h0 = h := e0.symm.trans eh
      subst this
      refine ⟨K, a2, fun c hc => ?_⟩
      show way M h0 c ∈ (liveOf M owner).map (·.1)
      cases z : oAt owner (way M h0 c) with
      | none => exact absurd z (a3 c hc)
      | some k2 => exact List.mem_map.mpr ⟨(way M h0 c, k2), (mem_live W.sz).2 ⟨way_in M h0 c, z⟩, rfl⟩
end L2

set_option Elab.async false
set_option linter.all false
set_option maxRecDepth 100000
set_option maxHeartbeats 3200000
set_option autoImplicit false
/-! RxS35: set(xs), xs a list of rows no two of which hash alike. -/
namespace L2
open PySem PySem.Spec PyProof.Rows
section
variable {P : Program} {w : World} {A : Around} {E : Value → Shared → Prop} {s : Shared}
/-! ### rows as keys -/
def keyP (p : Int × Int) : NestedKey := .tup [.num p.1, .num p.2]
def keyR (r : List (Int × Int)) : NestedKey := .tup (r.map keyP)
theorem keyR_hash (r : List (Int × Int)) : (keyR r).hash w = Rx.rowH r := by
  have e : ∀ r : List (Int × Int), NestedKey.hashes w (r.map keyP) = r.map Rx.prH := fun r => by
    induction r with
    | nil => rfl
    | cons p r ih =>
      show NestedKey.hash w (keyP p) :: NestedKey.hashes w (r.map keyP) = _
      rw [ih]; rfl
  show reduceHash (Builtin.Tuple.tupleHashOf (NestedKey.hashes w (r.map keyP))) = _
  rw [e]; rfl
theorem keyR_depth (r : List (Int × Int)) : (keyR r).depth ≤ 2 := by
  have e : ∀ r : List (Int × Int), NestedKey.depthAll (r.map keyP) ≤ 1 := fun r => by
    induction r with
    | nil => exact Nat.zero_le _
    | cons p r ih =>
      show max (NestedKey.depth (keyP p)) (NestedKey.depthAll (r.map keyP)) ≤ 1
      have : NestedKey.depth (keyP p) = 1 := rfl
      omega
  show NestedKey.depthAll (r.map keyP) + 1 ≤ 2
  have := e r
  omega
/-- hashed by value alone -/
def HashBy (P : Program) (w : World) (n : Nat) (s : Shared) (v : Value) : Prop := ∀ (A : Around) (E : Value → Shared → Prop) (Q : Bool → Shared → Prop), Q true s → wpAny (model P w) A (hashByValue n v) Q E s
theorem hashBy_num {n : Nat} {v : Value} {i : Int} (x : NestedIs s.heap (.num i) v) : HashBy P w n s v := fun A E Q h => by
  have hb : ∀ b, hashByValue n (.bool b) = pure true := fun b => by cases n <;> rfl
  cases x with
  | bool e => rw [hb]; exact wpAny_pure h
  | int i t => rw [hashBy_int]; exact wpAny_pure h
theorem hashBy_seq {n : Nat} {a : Addr} {o : Obj} {vs : Array Value} {m : Nat} (ho : s.heap.get? a = some o) (hc : o.cls = .type "tuple") (hd : o.data = .seq vs m) (hq : ∀ v ∈ vs.toList, HashBy P w n s v) : HashBy P w (n + 1) s (.ref a) := fun A E Q h => by
  have hT : s.TypeIs (.ref a) "tuple" := ⟨o, ho, hc⟩
  unfold hashByValue
  refine wpAny_bind (wpAny_specialOf hT F.slot_tuple_hash.lookup ?_)
  show wpAny _ _ (seqItems? (.ref a) >>= _) _ _ s
  refine wpAny_bind (wpAny_seqItems ho hd (wpAny_bind ?_))
  show wpAny _ _ (forIn vs _ _) _ _ s
  rw [← Array.forIn_toList]
  refine wpAny_forIn_list _ (fun rest r s' => r.1 = none ∧ s' = s ∧ ∀ v ∈ rest, HashBy P w n s v) _ ?_ ?_ _ _ ⟨rfl, rfl, hq⟩
  · rintro v rest r s' ⟨_, rfl, hall⟩
    refine wpAny_bind (hall v List.mem_cons_self _ _ _ ?_)
    simp only [Bool.not_true, Bool.false_eq_true, if_false]
    exact wpAny_pure ⟨rfl, rfl, fun u hu => hall u (List.mem_cons_of_mem _ hu)⟩
  · rintro ⟨r1, r2⟩ s' ⟨hr, rfl, _⟩
    simp only at hr
    subst hr
    exact wpAny_pure h
theorem hashBy_row {r : List (Int × Int)} {v : Value} (x : NestedIs s.heap (keyR r) v) : HashBy P w 8 s v := by
  have pairs : ∀ (r : List (Int × Int)) (vs : List Value), NestedAll s.heap (r.map keyP) vs → ∀ v ∈ vs, HashBy P w 7 s v := fun r => by
    induction r with
    | nil => intro vs h v hv; cases h; cases hv
    | cons p r ih =>
      intro vs h v hv
      cases h with
      | cons h1 h2 =>
        rcases List.mem_cons.mp hv with e | hv
        · subst e
          cases h1 with
          | tup g c d k =>
            refine hashBy_seq (n := 6) g c d fun u hu => ?_
            generalize Array.toList _ = l at k hu
            cases k with
            | cons k1 k2 =>
              cases k2 with
              | cons k2 k3 =>
                cases k3
                rcases List.mem_cons.mp hu with e | hu
                · rw [e]; exact hashBy_num k1
                · rw [List.mem_singleton.mp hu]; exact hashBy_num k2
        · exact ih _ h2 v hv
  cases x with
  | tup g c d k => exact hashBy_seq (n := 7) g c d (pairs r _ k)
/-! ### a search shows nothing -/
def OfA (P : Program) (w : World) (n : Nat) (s : Shared) (v : Value) : Prop := ∀ (A : Around) (E : Value → Shared → Prop) (Q : Bool → Shared → Prop), Q false s → wpAny (model P w) A (ofAClassStatement n v) Q E s
theorem ofA_num {n : Nat} {v : Value} {i : Int} (x : NestedIs s.heap (.num i) v) : OfA P w n s v := fun A E Q h => by
  have hb : ∀ b, ofAClassStatement n (.bool b) = pure false := fun b => by cases n <;> rfl
  cases x with
  | bool e => rw [hb]; exact wpAny_pure h
  | int i t => rw [ofAClass_int]; exact wpAny_pure h
theorem ofA_seq {n : Nat} {a : Addr} {o : Obj} {vs : Array Value} {m : Nat} (ho : s.heap.get? a = some o) (hc : o.cls = .type "tuple") (hd : o.data = .seq vs m) (hq : ∀ v ∈ vs.toList, OfA P w n s v) : OfA P w (n + 1) s (.ref a) := fun A E Q h => by
  have hT : s.TypeIs (.ref a) "tuple" := ⟨o, ho, hc⟩
  unfold ofAClassStatement
  refine wpAny_bind (wpAny_typeOf hT ?_)
  dsimp only
  have e : (("tuple" : String) == "tuple") = true := by decide
  simp only [e, if_true, Bool.not_true, Bool.false_eq_true, if_false]
  try refine wpAny_bind (wpAny_pure ?_)
  try simp only [Bool.not_true, Bool.false_eq_true, if_false]
  show wpAny _ _ (seqItems? (.ref a) >>= _) _ _ s
  refine wpAny_bind (wpAny_seqItems ho hd ?_)
  dsimp only
  refine wpAny_bind ?_
  show wpAny _ _ (forIn vs _ _) _ _ s
  rw [← Array.forIn_toList]
  refine wpAny_forIn_list _ (fun rest r s' => r.1 = none ∧ s' = s ∧ ∀ v ∈ rest, OfA P w n s v) _ ?_ ?_ _ _ ⟨rfl, rfl, hq⟩
  · rintro v rest r s' ⟨_, rfl, hall⟩
    refine wpAny_bind (hall v List.mem_cons_self _ _ _ ?_)
    simp only [Bool.false_eq_true, if_false]
    exact wpAny_pure ⟨rfl, rfl, fun u hu => hall u (List.mem_cons_of_mem _ hu)⟩
  · rintro ⟨r1, r2⟩ s' ⟨hr, rfl, _⟩
    simp only at hr
    subst hr
    exact wpAny_pure h
theorem ofA_row {r : List (Int × Int)} {v : Value} (x : NestedIs s.heap (keyR r) v) : OfA P w 8 s v := by
  have pairs : ∀ (r : List (Int × Int)) (vs : List Value), NestedAll s.heap (r.map keyP) vs → ∀ v ∈ vs, OfA P w 7 s v := fun r => by
    induction r with
    | nil => intro vs h v hv; cases h; cases hv
    | cons p r ih =>
      intro vs h v hv
      cases h with
      | cons h1 h2 =>
        rcases List.mem_cons.mp hv with e | hv
        · subst e
          cases h1 with
          | tup g c d k =>
            refine ofA_seq (n := 6) g c d fun u hu => ?_
            generalize Array.toList _ = l at k hu
            cases k with
            | cons k1 k2 =>
              cases k2 with
              | cons k2 k3 =>
                cases k3
                rcases List.mem_cons.mp hu with e | hu
                · rw [e]; exact ofA_num k1
                · rw [List.mem_singleton.mp hu]; exact ofA_num k2
        · exact ih _ h2 v hv
  cases x with
  | tup g c d k => exact ofA_seq (n := 7) g c d (pairs r _ k)
theorem seen_row {k : List (Int × Int)} {b : Addr} {Q : Bool → Shared → Prop} (hk : NestedIs s.heap (keyR k) (.ref b)) {ys : List Value} (hy : ∀ y ∈ ys, ∃ k' c, y = Value.ref c ∧ NestedIs s.heap (keyR k') (.ref c)) (h : Q false s) :
    wpAny (model P w) A (searchCouldBeSeen (.ref b) ys) Q E s := by
  have dp : ∀ k : List (Int × Int), (keyR k).depth ≤ 8 := fun k => by have := keyR_depth k; omega
  unfold searchCouldBeSeen
  refine wpAny_bind ?_
  refine wpAny_forIn_list _ (fun rest r s' => r.1 = none ∧ s' = s ∧ ∀ y ∈ rest, ∃ k' c, y = Value.ref c ∧ NestedIs s.heap (keyR k') (.ref c)) _ ?_ ?_ _ _ ⟨rfl, rfl, hy⟩
  · rintro v rest r s' ⟨hr, rfl, hall⟩
    obtain ⟨k', c, rfl, hc⟩ := hall v List.mem_cons_self
    have rest' : ∀ y ∈ rest, ∃ k' c, y = Value.ref c ∧ NestedIs s'.heap (keyR k') (.ref c) := fun u hu' => hall u (List.mem_cons_of_mem _ hu')
    dsimp only
    by_cases hv : (b == c || (carriedByValue (.ref b) && carriedByValue (.ref c))) = true
    · refine wp_if_pos hv ?_
      exact wpAny_pure ⟨rfl, rfl, rest'⟩
    · refine wp_if_neg hv ?_
      refine wpAny_bind (quiet_key (keyR k) _ 8 s' hk (dp k) _ _ _ ?_)
      simp only [Bool.not_true, Bool.false_eq_true, if_false]
      refine wpAny_bind (quiet_key (keyR k') _ 8 s' hc (dp k') _ _ _ ?_)
      simp only [Bool.not_true, Bool.false_eq_true, if_false]
      refine wpAny_bind (ofA_row hk _ _ _ ?_)
      simp only [Bool.false_eq_true, if_false]
      refine wpAny_bind (ofA_row hc _ _ _ ?_)
      simp only [Bool.false_eq_true, if_false]
      exact wpAny_pure ⟨rfl, rfl, rest'⟩
  · rintro ⟨r1, r2⟩ s' ⟨hr, rfl, _⟩
    simp only at hr
    subst hr
    exact wpAny_pure h
/-! ### the set -/
def rowsN (L : List (Addr × List (Int × Int))) : List (Int × Value) := L.map fun p => (Rx.rowH p.2, Value.ref p.1)
structure SetN (w : World) (h : Heap) (a : Addr) (L : List (Addr × List (Int × Int))) (es : Array (Int × Value)) (ep : Nat) (t : SetTable) : Prop where
  ob : ∃ o, h.get? a = some o ∧ o.ExactSet ∧ o.data = .set es ep t
  rows : es.toList = rowsN L
  tab : TabF t (L.map fun p => Rx.rowH p.2)
  nd : (L.map fun p => Rx.rowH p.2).Nodup
  tup : ∀ p ∈ L, NestedIs h (keyR p.2) (.ref p.1)
  plain : t.plain = true
  led : w.params.followText "set-order" = true ∨ t.led = true
  room : L.length * 5 < t.mask * 3
variable {a : Addr} {L : List (Addr × List (Int × Int))} {es : Array (Int × Value)} {ep : Nat} {t : SetTable}
theorem rowsN_size (h : es.toList = rowsN L) : es.size = L.length := by
  have q := congrArg List.length h
  unfold rowsN at q
  rwa [Array.length_toList, List.length_map] at q
theorem fits_of {n : Nat} (h1 : t.place.size = n) (h2 : t.dummies = #[]) (h3 : n ≤ t.mask) : t.fits n = true := by
  unfold SetTable.fits SetTable.fill
  rw [h2, Bool.and_eq_true, beq_iff_eq, decide_eq_true_eq]
  exact ⟨h1, by show t.place.size + 0 ≤ t.mask; omega⟩
theorem TabF.sz' (T : TabF t (L.map fun p => Rx.rowH p.2)) : t.place.size = L.length := by
  have := T.sz
  rwa [List.length_map] at this
theorem SetN.fits {h : Heap} (R : SetN w h a L es ep t) : t.fits es.size = true := by
  have := R.room
  exact fits_of (by rw [R.tab.sz', rowsN_size R.rows]) R.tab.dm (by rw [rowsN_size R.rows]; omega)
theorem SetN.keep {h h' : Heap} (R : SetN w h a L es ep t) (k : ∀ o, h.get? a = some o → h'.get? a = some o) (kt : ∀ p ∈ L, NestedIs h' (keyR p.2) (.ref p.1)) : SetN w h' a L es ep t := by
  obtain ⟨o, ho, r⟩ := R.ob
  exact ⟨⟨o, k o ho, r⟩, R.rows, R.tab, R.nd, kt, R.plain, R.led, R.room⟩
/-- a row is not the set -/
theorem nested_same {h h' : Heap} {k : NestedKey} {v : Value} {o : Obj} (x : NestedIs h k v) (ho : h.get? a = some o) (hd : o.data = .set es ep t) (hs : Heap.SameBut a h h') : NestedIs h' k v :=
  NestedIs.at (fun b ob vs n hb hc => by
    refine (hs.2 b fun e => ?_).trans hb
    subst e
    rw [ho] at hb
    cases hb
    rw [hd] at hc
    cases hc) k v x
/-! ### the order of a table laid anew -/
theorem pick_map {α β : Type} (f : α → β) (l : List α) : ∀ o : List Nat, o.filterMap (fun i => (l.map f)[i]?) = (o.filterMap fun i => l[i]?).map f
  | [] => rfl
  | i :: o => by
    rw [List.filterMap_cons, List.filterMap_cons, List.getElem?_map, pick_map f l o]
    cases l[i]? <;> rfl
theorem pick_range {α : Type} (l : List α) : (List.range l.length).filterMap (fun i => l[i]?) = l := by
  have key : ∀ n, (List.range n).filterMap (fun i => l[i]?) = l.take n := fun n => by
    induction n with
    | zero => rfl
    | succ n ih =>
      rw [List.range_succ, List.filterMap_append, ih, List.take_succ]
      cases h : l[n]? <;> simp [h]
  rw [key, List.take_length]
theorem orderN (order : Array Nat) (hr : es.toList = rowsN L) (hp : order.toList.Perm (List.range L.length)) : ∃ L2, (order.filterMap (es[·]?)).toList = rowsN L2 ∧ L2.Perm L ∧ (L2.map fun p => Rx.rowH p.2) = order.toList.map fun i => (es.map (·.1)).getD i 0 := by
  refine ⟨order.toList.filterMap fun i => L[i]?, ?_, ?_, ?_⟩
  · have e : (fun i => es[i]?) = fun i => (rowsN L)[i]? := funext fun i => by rw [← hr, Array.getElem?_toList]
    rw [Array.toList_filterMap, e]
    exact pick_map _ L _
  · have := hp.filterMap fun i => L[i]?
    rwa [pick_range] at this
  · have hlt : ∀ i ∈ order.toList, i < L.length := fun i hi => List.mem_range.mp (hp.mem_iff.mp hi)
    have key : ∀ l : List Nat, (∀ i ∈ l, i < L.length) → ((l.filterMap fun i => L[i]?).map fun p => Rx.rowH p.2) = l.map fun i => (es.map (·.1)).getD i 0 := fun l => by
      induction l with
      | nil => intro _; rfl
      | cons i l ih =>
        intro hl
        have hi := hl i List.mem_cons_self
        have q : (es.map (·.1))[i]? = some (Rx.rowH (L[i]).2) := by
          rw [Array.getElem?_map, ← Array.getElem?_toList, hr]
          unfold rowsN
          rw [List.getElem?_map, List.getElem?_eq_getElem hi]; rfl
        rw [List.filterMap_cons_some (List.getElem?_eq_getElem hi), List.map_cons, List.map_cons, ih fun j hj => hl j (List.mem_cons_of_mem _ hj), Array.getD_eq_getD_getElem?, q]
        rfl
    exact key _ hlt
theorem relayN {o : Obj} (ho : s.heap.get? a = some o) (hex : o.ExactSet) (hd : o.data = .set es ep t) (hrows : es.toList = rowsN L) (hsz : t.place.size = L.length) (hdm : t.dummies = #[]) (hfl : L.length ≤ t.mask)
    (nd : (L.map fun p => Rx.rowH p.2).Nodup) (tup : ∀ p ∈ L, NestedIs s.heap (keyR p.2) (.ref p.1)) (pl : t.plain = true) (ld : w.params.followText "set-order" = true ∨ t.led = true) {wanted M : Nat}
    (hw : SetTable.sizeAbove wanted - 1 = M) (hM : Fl M) (hw2 : SetTable.sizeAbove wanted ≤ 512) (hn : L.length * 5 < M * 3) {Q : Unit → Shared → Prop}
    (hQ : ∀ h' L' es' ep' t', Heap.SameBut a s.heap h' → SetN w h' a L' es' ep' t' → L'.Perm L → Q () { s with heap := h' }) : wpAny (model P w) A (setRelay a wanted) Q E s := by
  have hsl := rowsN_size hrows
  obtain ⟨t', order, e, hp, T, q4, q5, q6⟩ := relaidF t (hs := es.map (·.1)) (wanted := wanted) hw hM (by rw [Array.size_map, hsl]; omega)
  rw [Array.size_map, hsl] at hp
  obtain ⟨L2, r1, r2, r3⟩ := orderN order hrows hp
  rw [← r3] at T
  have hs2 : (order.filterMap (es[·]?)).size = es.size := by rw [rowsN_size r1, r2.length_eq, hsl]
  rw [setRelay_eq]
  refine wpAny_bind (wpAny_setState_of ho hd (fits_of (by rw [hsz, hsl]) hdm (by omega)) ?_)
  dsimp only
  refine wp_if_neg (by rw [sizeLine_eq]; omega) ?_
  try refine wpAny_bind (wpAny_pure ?_)
  rw [e]
  dsimp only
  refine wpAny_bind ?_
  refine wp_if_neg (by rw [hs2]; simp) ?_
  try refine wpAny_bind (wpAny_pure ?_)
  refine wpAny_pure ?_
  dsimp only
  refine wpAny_storeSet_of ho hd ?_ (by rw [hs2, hsl, sizeLine_eq]; rcases hM with z | z | z | z <;> omega)
  have sb : Heap.SameBut a s.heap (s.heap.update a (Obj.putSet (order.filterMap (es[·]?)) t')) := Heap.SameBut.update ..
  refine hQ _ L2 (order.filterMap (es[·]?)) (ep + 1) t' sb ⟨⟨_, store_at ho hd, ⟨hex.1, hex.2.1, hex.2.2⟩, rfl⟩, r1, T, (r2.map _).nodup_iff.mpr nd, fun p hp => nested_same (tup p (r2.mem_iff.mp hp)) ho hd sb, by rw [q6]; exact pl, by rw [q5]; exact ld, by rw [r2.length_eq, q4]; exact hn⟩ r2
theorem size_308 : SetTable.sizeAbove (SetTable.grown 77) = 512 := by decide +kernel
theorem addN (R : SetN w s.heap a L es ep t) {x : Addr} {k : List (Int × Int)} (hx : NestedIs s.heap (keyR k) (.ref x)) (hinj : ∀ p ∈ L, Rx.rowH p.2 = Rx.rowH k → p.2 = k) (hu : A.units + 8 < cLine) (hfew : L.length + 1 ≤ 300) {Q : Bool → Shared → Prop}
    (hQ : ∀ b h' L' es' ep' t', Heap.SameBut a s.heap h' → SetN w h' a L' es' ep' t' → (k ∈ L.map (·.2) → L' = L) → (k ∉ L.map (·.2) → L'.Perm ((x, k) :: L)) → Q b { s with heap := h' }) :
    wpAny (model P w) A (setAddHashed a (.ref x) (Rx.rowH k)) Q E s := by
  obtain ⟨o, ho, hex, hd⟩ := R.ob
  have hsl := rowsN_size R.rows
  have hroom := R.room
  have entry : ∀ (i : Nat) (hi : i < L.length), es[i]? = some (Rx.rowH (L[i]).2, Value.ref (L[i]).1) := fun i hi => by
    rw [← Array.getElem?_toList, R.rows]
    unfold rowsN
    rw [List.getElem?_map, List.getElem?_eq_getElem hi]; rfl
  have hm : Rx.rowH k ∈ (L.map fun p => Rx.rowH p.2) ↔ k ∈ L.map (·.2) := by
    constructor
    · intro z
      obtain ⟨p, hp, e⟩ := List.mem_map.mp z
      exact List.mem_map.mpr ⟨p, hp, hinj p hp e⟩
    · intro z
      obtain ⟨p, hp, e⟩ := List.mem_map.mp z
      exact List.mem_map.mpr ⟨p, hp, by rw [e]⟩
  obtain ⟨pn, py⟩ := probeF (t := t) R.tab (by rw [List.length_map]; omega) (hashAt := fun i => (es[i]?.map (·.1)).getD 0) (fun i h hi => by
    rw [List.getElem?_map, Option.map_eq_some_iff] at hi
    obtain ⟨p, hp, e⟩ := hi
    obtain ⟨hl, e2⟩ := List.getElem?_eq_some_iff.mp hp
    simp only [entry i hl, Option.map_some, Option.getD_some, e2]
    exact e) (Rx.rowH k)
  have gw : ¬ t.gaveWay = true := by unfold SetTable.gaveWay; rw [fl_odd R.tab.fl]; decide
  unfold setAddHashed
  refine wpAny_holding ?_
  rw [show (100000 : Nat) = 99999 + 1 from rfl, setAddHashedIn_succ]
  refine wpAny_bind (wpAny_setState_of ho hd R.fits ?_)
  dsimp only
  refine wp_if_neg (by simp [byScan, Value.scannable]) ?_
  try refine wpAny_bind (wpAny_pure ?_)
  by_cases hin : k ∈ L.map (·.2)
  · -- it is there
    obtain ⟨i, j, nx, hi, pe⟩ := py (hm.mpr hin)
    rw [List.getElem?_map, Option.map_eq_some_iff] at hi
    obtain ⟨p, hp, ehp⟩ := hi
    obtain ⟨hil, e2⟩ := List.getElem?_eq_some_iff.mp hp
    have hpm : p ∈ L := List.mem_of_getElem? hp
    have hpk : p.2 = k := hinj p hpm ehp
    have ent := entry i hil
    rw [e2] at ent
    have sr : ∀ {Q' : SetFound → Shared → Prop}, Q' (.there none) s → wpAny (model P w) A (setSearch a (.ref x) (Rx.rowH k) true) Q' E s := fun {Q'} hq => by
      unfold setSearch
      rw [show (100000 : Nat) = 99999 + 1 from rfl, setSearchFrom_succ]
      refine wpAny_bind (wpAny_setState_of ho hd R.fits ?_)
      dsimp only
      refine wp_if_neg gw ?_
      try refine wpAny_bind (wpAny_pure ?_)
      rw [show (none : Option SetTable.Probe).getD (t.probeStart (Rx.rowH k)) = t.probeStart (Rx.rowH k) from rfl, pe]
      dsimp only
      have rest : wpAny (model P w) A (searchRest a (.ref x) (Rx.rowH k) true 99999 es t j i nx) Q' E s := by
        unfold searchRest
        rw [ent]
        dsimp only
        have dp : ∀ k : List (Int × Int), (keyR k).depth ≤ 8 := fun k => by have := keyR_depth k; omega
        refine wpAny_bind (wpAny_holding ((nestedKind P w).eqBool (x := keyR p.2) (y := keyR k) hu ⟨R.tup p hpm, dp _⟩ ⟨hx, dp _⟩ ?_))
        refine wpAny_bind (wpAny_setState_of ho hd R.fits ?_)
        dsimp only
        refine wp_if_pos (by rw [hpk]; simp) ?_
        exact wpAny_pure hq
      by_cases hl : t.led = true
      · refine wp_if_neg (by simp [hl]) ?_
        try refine wpAny_bind (wpAny_pure ?_)
        exact rest
      · refine wp_if_pos (by simp [hl]) ?_
        refine wpAny_bind (seen_row hx (fun y hy => ?_) ?_)
        · obtain ⟨e, he, ee⟩ := List.mem_map.mp hy
          have he1 : e ∈ es := by
            have : e ∈ es ∧ e.1 = Rx.rowH k := by simpa using he
            exact this.1
          have he2 : e ∈ es.toList := by simpa using he1
          rw [R.rows] at he2
          obtain ⟨p2, hp2, e2⟩ := List.mem_map.mp he2
          exact ⟨p2.2, p2.1, by rw [← ee, ← e2], R.tup p2 hp2⟩
        · refine wp_if_neg (by decide) ?_
          try refine wpAny_bind (wpAny_pure ?_)
          exact rest
    refine wpAny_bind (sr ?_)
    dsimp only
    exact wpAny_pure (hQ false s.heap L es ep t (Heap.SameBut.refl a s.heap) R (fun _ => rfl) fun z => absurd hin z)
  · -- it is new
    obtain ⟨K, hK, hb, pe⟩ := pn fun z => hin (hm.mp z)
    obtain ⟨hbl, T1⟩ := putTF R.tab hK hb
    generalize way t.mask (Rx.rowH k) K = j at hK pe hbl T1
    have sr : ∀ {Q' : SetFound → Shared → Prop}, Q' (.free j false) s → wpAny (model P w) A (setSearch a (.ref x) (Rx.rowH k) true) Q' E s := fun {Q'} hq => by
      unfold setSearch
      rw [show (100000 : Nat) = 99999 + 1 from rfl, setSearchFrom_succ]
      refine wpAny_bind (wpAny_setState_of ho hd R.fits ?_)
      dsimp only
      refine wp_if_neg gw ?_
      try refine wpAny_bind (wpAny_pure ?_)
      rw [show (none : Option SetTable.Probe).getD (t.probeStart (Rx.rowH k)) = t.probeStart (Rx.rowH k) from rfl, pe]
      exact wpAny_pure hq
    refine wpAny_bind (sr ?_)
    dsimp only
    refine wpAny_bind (wpAny_setState_of ho hd R.fits ?_)
    dsimp only
    have t1pl : (t.put j).1.plain = true := R.plain
    have t1m : (t.put j).1.mask = t.mask := rfl
    have t1l : (t.put j).1.led = t.led := rfl
    have t1p : (t.put j).2 = SetTable.below t.place j := rfl
    have hhs : (L.take (SetTable.below t.place j) ++ (x, k) :: L.drop (SetTable.below t.place j)).map (fun p => Rx.rowH p.2) = (L.map fun p => Rx.rowH p.2).take (SetTable.below t.place j) ++ Rx.rowH k :: (L.map fun p => Rx.rowH p.2).drop (SetTable.below t.place j) := by
      rw [List.map_append, List.map_cons, List.map_take, List.map_drop]
    rw [← hhs] at T1
    generalize hpt : t.put j = pt at T1 t1pl t1m t1l t1p ⊢
    obtain ⟨t1, p⟩ := pt
    dsimp only at T1 t1pl t1m t1l t1p ⊢
    subst t1p
    first
      | (refine wpAny_bind ?_; refine wp_if_pos t1pl ?_; refine hashBy_row hx _ _ _ ?_)
      | refine wp_if_pos t1pl (wpAny_bind (hashBy_row hx _ _ _ ?_))
    simp only [if_true]
    have hinn : (SetTable.insertAt es (SetTable.below t.place j) (Rx.rowH k, Value.ref x)).toList = rowsN (L.take (SetTable.below t.place j) ++ (x, k) :: L.drop (SetTable.below t.place j)) := by
      rw [SetTable.toList_insertAt, R.rows]
      unfold rowsN
      rw [List.map_append, List.map_cons, List.map_take, List.map_drop]
    have pm := put_perm L (SetTable.below t.place j) (x, k)
    generalize L.take (SetTable.below t.place j) ++ (x, k) :: L.drop (SetTable.below t.place j) = L1 at hinn pm T1
    generalize SetTable.insertAt es (SetTable.below t.place j) (Rx.rowH k, Value.ref x) = es1 at hinn ⊢
    have hlen : L1.length = L.length + 1 := pm.length_eq
    have hes : es1.size = L.length + 1 := by rw [rowsN_size hinn, hlen]
    have t1sz : t1.place.size = L.length + 1 := by rw [T1.sz', hlen]
    have nd1 : (L1.map fun p => Rx.rowH p.2).Nodup := (pm.map _).nodup_iff.mpr (by rw [List.map_cons]; exact List.nodup_cons.mpr ⟨fun z => hin (hm.mp z), R.nd⟩)
    refine wpAny_bind (wpAny_storeSet_of ho hd ?_ (by rw [hes, sizeLine_eq]; omega))
    have sb : Heap.SameBut a s.heap (s.heap.update a (Obj.putSet es1 t1)) := Heap.SameBut.update ..
    have ho1 := store_at (es' := es1) (t' := t1) ho hd
    generalize s.heap.update a (Obj.putSet es1 t1) = h1 at sb ho1 ⊢
    have tup1 : ∀ p ∈ L1, NestedIs h1 (keyR p.2) (.ref p.1) := fun p hp => by
      rcases List.mem_cons.mp (pm.mem_iff.mp hp) with e | hp
      · rw [e]; exact nested_same hx ho hd sb
      · exact nested_same (R.tup p hp) ho hd sb
    have ld1 : w.params.followText "set-order" = true ∨ t1.led = true := by rw [t1l]; exact R.led
    have fl : t1.fill = L.length + 1 := by unfold SetTable.fill; rw [T1.dm, t1sz]; rfl
    have tf : t1.tooFull = decide ((L.length + 1) * 5 ≥ t1.mask * 3) := by unfold SetTable.tooFull; rw [fl]
    by_cases hf : t1.tooFull = true
    · first
        | (refine wpAny_bind ?_; refine wp_if_pos (by simp [hf]) ?_)
        | (refine wp_if_pos (by simp [hf]) ?_; refine wpAny_bind ?_)
      rw [tf, decide_eq_true_eq, t1m] at hf
      rw [hsl]
      have cs : (t.mask = 7 ∧ L.length = 4) ∨ (t.mask = 31 ∧ L.length = 18) ∨ (t.mask = 127 ∧ L.length = 76) := by
        rcases R.tab.fl with e | e | e | e <;> rw [e] at hf hroom <;> omega
      have go : ∀ M, SetTable.sizeAbove (SetTable.grown (L.length + 1)) = M + 1 → Fl M → M ≤ 511 → (L.length + 1) * 5 < M * 3 →
          wpAny (model P w) A (setRelay a (SetTable.grown (L.length + 1))) (fun _ s' => wpAny (model P w) A (pure true) Q E s') E { s with heap := h1 } := fun M g1 g2 g3 g4 => by
        refine relayN (s := { s with heap := h1 }) ho1 ⟨hex.1, hex.2.1, hex.2.2⟩ rfl hinn (by rw [t1sz, hlen]) T1.dm (by rw [hlen, t1m]; rcases cs with ⟨e, e2⟩ | ⟨e, e2⟩ | ⟨e, e2⟩ <;> omega) nd1 tup1 t1pl ld1 (by rw [g1]; rfl) g2 (by rw [g1]; omega) (by rw [hlen]; exact g4) ?_
        intro h2 L2 es2 ep2 t2 sb2 R2 pm2
        exact wpAny_pure (hQ true h2 L2 es2 ep2 t2 (sb.trans sb2) R2 (fun z => absurd z hin) fun _ => pm2.trans pm)
      rcases cs with ⟨_, e2⟩ | ⟨_, e2⟩ | ⟨_, e2⟩
      · exact go 31 (by rw [e2, size_20]) (.inr (.inl rfl)) (by omega) (by omega)
      · exact go 127 (by rw [e2, size_76]) (.inr (.inr (.inl rfl))) (by omega) (by omega)
      · exact go 511 (by rw [e2, size_308]) (.inr (.inr (.inr rfl))) (by omega) (by omega)
    · first
        | refine wp_if_neg (by simp [hf]) ?_
        | (refine wpAny_bind ?_; refine wp_if_neg (by simp [hf]) ?_; refine wpAny_pure ?_)
      rw [tf, decide_eq_true_eq] at hf
      exact wpAny_pure (hQ true h1 L1 es1 (ep + 1) t1 sb ⟨⟨_, ho1, ⟨hex.1, hex.2.1, hex.2.2⟩, rfl⟩, hinn, T1, nd1, tup1, t1pl, ld1, by rw [hlen]; omega⟩ (fun z => absurd z hin) fun _ => pm)
end
end L2

set_option Elab.async false
set_option linter.all false
set_option maxRecDepth 100000
set_option maxHeartbeats 3200000
set_option autoImplicit false
/-! RxS36: set(xs) and sorted of it, xs a list of rows no two of which hash alike. -/
namespace L2
open PySem PySem.Spec PyProof.Rows
section
variable {P : Program} {w : World} {A : Around} {E : Value → Shared → Prop} {s : Shared}
theorem nested_keep {h h' : Heap} (hk : ∀ b o, h.get? b = some o → h'.get? b = some o) {k : NestedKey} {v : Value} (x : NestedIs h k v) : NestedIs h' k v := NestedIs.at (fun b o _ _ e _ => hk b o e) k v x
theorem setN_fresh {h : Heap} {a : Addr} (ho : h.get? a = some (Rx.emptySet w)) : SetN w h a [] #[] 0 (.fresh 0 0 (!w.params.followText "set-order")) where
  ob := ⟨_, ho, ⟨rfl, rfl, rfl⟩, rfl⟩
  rows := rfl
  tab := ⟨List.Pairwise.nil, rfl, rfl, .inl rfl, fun i h j hi => (by simp at hi)⟩
  nd := List.nodup_nil
  tup := fun p hp => (by cases hp)
  plain := rfl
  led := by
    show _ ∨ (!w.params.followText "set-order") = true
    cases w.params.followText "set-order"
    · exact .inr rfl
    · exact .inl rfl
  room := by show 0 * 5 < 7 * 3; decide
/-- the first i keys are in the set -/
structure GotN (ks : List (Addr × List (Int × Int))) (i : Nat) (L : List (Addr × List (Int × Int))) : Prop where
  sub : ∀ p ∈ L, p ∈ ks.take i
  all : ∀ p ∈ ks.take i, p.2 ∈ L.map (·.2)
  len : L.length ≤ i
theorem set_update_rows {I : Addr} {fp wr : List Addr} {G : Array GenState → Array GenState → Prop} {n : Nat} {Pv : Nat → Value → Prop} {St : Nat → Shared → Prop} {R : Result → Shared → Prop}
    (W : WalksS P w A.in1 I fp wr G n Pv St) (S : Addr) (hSf : S ∉ fp) (ks : List (Addr × List (Int × Int))) (hn : n = ks.length) (hfew : ks.length ≤ 300) (hinj : ∀ p ∈ ks, ∀ q ∈ ks, Rx.rowH p.2 = Rx.rowH q.2 → p.2 = q.2) (hval : ∀ i v, Pv i v → ∃ p, ks[i]? = some p ∧ v = .ref p.1)
    (h0 : Heap) (hk : ∀ p ∈ ks, NestedIs h0 (keyR p.2) (.ref p.1)) (hS0 : h0.get? S = none) (hw0 : ∀ b ∈ wr, h0.get? b = none) (hu : A.in1.units + 8 < cLine) :
    ∀ (k i : Nat) (s : Shared), n - i = k → i ≤ n → St i s → (∀ b o, h0.get? b = some o → s.heap.get? b = some o) → (∃ L es ep t, SetN w s.heap S L es ep t ∧ GotN ks i L) →
      (∀ s' L es ep t, Moved (S :: wr) G s s' → SetN w s'.heap S L es ep t → GotN ks n L → (∀ b o, h0.get? b = some o → s'.heap.get? b = some o) → R (.ok (.ret .none)) s') →
      codeAny (model P w) A (.builtin "set.update.loop" ⟨[.ref S, .ref I], []⟩) R s := by
  have hSw : S ∉ wr := fun h => hSf (W.sub _ h)
  have up : ∀ b ∈ wr, b ∈ S :: wr := fun b hb => List.mem_cons_of_mem _ hb
  have keepM : ∀ {s s' : Shared}, Moved wr G s s' → (∀ b o, h0.get? b = some o → s.heap.get? b = some o) → ∀ b o, h0.get? b = some o → s'.heap.get? b = some o := fun m kp b o e =>
    m.heap b o (fun z => by rw [hw0 b z] at e; cases e) (kp b o e)
  intro k
  induction k with
  | zero =>
    intro i s hk' hi st kp ⟨L, es, ep, t, hS, g⟩ hR
    have : i = n := by omega
    subst this
    refine codeAny_builtin F.entry_set_update_loop ?_
    rw [Around.under_plainId F.plain_set_update_loop _]
    show wpAny _ A.in1 (pyNext (.ref I) >>= _) _ _ s
    refine wpAny_bind (W.done s _ _ st fun s' m => ?_)
    show wpAny _ A.in1 (ret Value.none) _ _ s'
    have kp' := keepM m kp
    exact wpAny_pure (hR s' L es ep t (m.mono up) (hS.keep (fun o e => m.heap S o hSw e) fun p hp => nested_keep kp' (hk p (List.mem_of_mem_take (g.sub p hp)))) g kp')
  | succ k ih =>
    intro i s hk' hi st kp ⟨L, es, ep, t, hS, g⟩ hR
    have lt : i < n := by omega
    refine codeAny_builtin F.entry_set_update_loop ?_
    rw [Around.under_plainId F.plain_set_update_loop _]
    show wpAny _ A.in1 (pyNext (.ref I) >>= _) _ _ s
    refine wpAny_bind (W.item i s _ _ lt st fun v s' hP st' m => ?_)
    obtain ⟨p, hp, rfl⟩ := hval i v hP
    have kp' := keepM m kp
    have sub : ∀ q ∈ L, q ∈ ks := fun q hq => List.mem_of_mem_take (g.sub q hq)
    have hS' : SetN w s'.heap S L es ep t := hS.keep (fun o e => m.heap S o hSw e) fun q hq => nested_keep kp' (hk q (sub q hq))
    have hx : NestedIs s'.heap (keyR p.2) (.ref p.1) := nested_keep kp' (hk p (List.mem_of_getElem? hp))
    have tk := take_next hp
    have hLl := g.len
    show wpAny _ A.in1 (holding [Value.ref p.1] (setAdd S (.ref p.1)) >>= _) _ _ s'
    refine wpAny_bind (wpAny_holding ?_)
    unfold setAdd
    refine wpAny_holding ?_
    have hdp := keyR_depth p.2
    refine wpAny_bind (pyHash_key (keyR p.2) _ A.in1 s' _ hx (by omega) ?_)
    rw [keyR_hash]
    refine addN (s := { s' with toks := s'.toks + (keyR p.2).draws }) hS' hx (fun q hq e => hinj q (sub q hq) p (List.mem_of_getElem? hp) e) hu (by omega) fun b h' L' es' ep' t' sb hS2 c1 c2 => ?_
    have g' : GotN ks (i + 1) L' := by
      rcases Classical.em (p.2 ∈ L.map (·.2)) with c | c
      · rw [c1 c]
        refine ⟨fun q hq => by rw [tk]; exact List.mem_append_left _ (g.sub q hq), fun q hq => ?_, by omega⟩
        rw [tk] at hq
        rcases List.mem_append.mp hq with hq | hq
        · exact g.all q hq
        · rw [List.mem_singleton.mp hq]; exact c
      · have pm := c2 c
        refine ⟨fun q hq => ?_, fun q hq => ?_, by rw [pm.length_eq, List.length_cons]; omega⟩
        · rw [tk]
          rcases List.mem_cons.mp (pm.mem_iff.mp hq) with e | hq
          · rw [e]; exact List.mem_append_right _ List.mem_cons_self
          · exact List.mem_append_left _ (g.sub q hq)
        · rw [tk] at hq
          refine (pm.map (·.2)).mem_iff.mpr ?_
          rw [List.map_cons]
          rcases List.mem_append.mp hq with hq | hq
          · exact List.mem_cons_of_mem _ (g.all q hq)
          · rw [List.mem_singleton.mp hq]; exact List.mem_cons_self
    have kp2 : ∀ b o, h0.get? b = some o → h'.get? b = some o := fun b o e => (sb.2 b (fun z => by rw [z, hS0] at e; cases e)).trans (kp' b o e)
    refine wpAny_pure ⟨plainId_quiet F.plain_set_update_loop _, ih (i + 1) _ (by omega) lt (W.frame _ s' _ _ st' (Nat.le_add_right _ _) fun b hb o e => ?_) kp2 ⟨L', es', ep', t', hS2, g'⟩ fun s'' L2 es2 ep2 t2 m2 hS'' g'' kp'' => ?_⟩
    · rw [sb.2 b (fun z : b = S => hSf (by rw [← z]; exact hb))]; exact e
    · refine hR s'' L2 es2 ep2 t2 (Moved.trans W.gtrans ((m.mono up).then_heap (Nat.le_add_right _ _) fun b o hb e => ?_) m2) hS'' g'' kp''
      rw [sb.2 b (fun z : b = S => hb (by rw [z]; exact List.mem_cons_self))]; exact e
/-- what set(xs) leaves -/
def RowsLeft (w : World) (s : Shared) (ks : List (Addr × List (Int × Int))) (h' : Heap) : Prop := (∃ L es ep t, SetN w h' s.heap.objs.size L es ep t ∧ (∀ p ∈ L, p ∈ ks) ∧ ∀ p ∈ ks, p.2 ∈ L.map (·.2)) ∧ ∀ b o, s.heap.get? b = some o → h'.get? b = some o
theorem set_rows_loop {l : Addr} {xs : Array Value} {ks : List (Addr × List (Int × Int))} {Q : Result → Shared → Prop} (hh : A.handled = none) (hl : s.heap.IsList l xs) (hi : xs.toList = ks.map fun p => Value.ref p.1)
    (hk : ∀ p ∈ ks, NestedIs s.heap (keyR p.2) (.ref p.1)) (hfew : ks.length ≤ 300) (ndh : ∀ p ∈ ks, ∀ q ∈ ks, Rx.rowH p.2 = Rx.rowH q.2 → p.2 = q.2) (hu : A.in1.units + 8 < cLine)
    (hq : ∀ h' tk, RowsLeft w s ks h' → Q (.ok (.ret .none)) { s with heap := h', toks := tk }) :
    codeAny (model P w) A (.builtin "set.update.loop" ⟨[.ref s.heap.objs.size, .ref (s.heap.push (Rx.emptySet w)).objs.size], []⟩) Q
      { s with heap := (s.heap.push (Rx.emptySet w)).push { cls := .type "list_iterator", data := .fields #[.ref l, .int 0 0] } } := by
  have sz : xs.size = ks.length := by rw [← Array.length_toList, hi, List.length_map]
  obtain ⟨ol, hol, _⟩ := id hl
  have below : l < s.heap.objs.size := Heap.lt_size hol
  have next : (s.heap.push (Rx.emptySet w)).objs.size = s.heap.objs.size + 1 := Heap.size_push _ _
  have apart : l ≠ (s.heap.push (Rx.emptySet w)).objs.size := by rw [next]; exact Nat.ne_of_lt (Nat.lt_succ_of_lt below)
  have out : s.heap.objs.size ∉ [(s.heap.push (Rx.emptySet w)).objs.size, l] := by
    rw [next]
    intro m
    rcases List.mem_cons.mp m with z | z
    · exact absurd z (Nat.ne_of_lt (Nat.lt_succ_self _))
    · exact absurd (List.mem_singleton.mp z) (Nat.ne_of_gt below)
  have none_of : ∀ b, s.heap.objs.size ≤ b → s.heap.get? b = none := fun b hb => by
    cases q : s.heap.get? b with
    | none => rfl
    | some o => exact absurd (Nat.lt_of_lt_of_le (Heap.lt_size q) hb) (Nat.lt_irrefl _)
  have vals : ∀ (i : Nat) (v : Value), xs[i]? = some v → ∃ p, ks[i]? = some p ∧ v = .ref p.1 := fun i v hv => by
    rw [← Array.getElem?_toList, hi, List.getElem?_map, Option.map_eq_some_iff] at hv
    obtain ⟨p, e1, e2⟩ := hv
    exact ⟨p, e1, e2.symm⟩
  have there : (s.heap.push (Rx.emptySet w)).get? s.heap.objs.size = some (Rx.emptySet w) := Heap.get?_push_size _ rfl
  refine set_update_rows ((Walks.list (show A.in1.handled = none by simp [hh]) _ l apart xs).toS) _ out ks sz hfew ndh vals s.heap hk (none_of _ (Nat.le_refl _)) (fun b hb => none_of b (by
      rw [List.mem_singleton.mp hb, next]
      exact Nat.le_succ _)) hu (xs.size - 0) 0 _ rfl (Nat.zero_le _) ⟨⟨_, Heap.get?_push_size _ rfl, rfl, rfl⟩, (hl.push _).push _⟩ (fun b o e => Heap.get?_push_of_some _ (Heap.get?_push_of_some _ e))
    ⟨[], #[], 0, _, setN_fresh (Heap.get?_push_of_some _ there), ⟨fun p hp => (by cases hp), fun p hp => (by simp at hp), Nat.le_refl _⟩⟩ fun s' L es ep t m R g kp => ?_
  obtain ⟨h', g', d', tk', os'⟩ := s'
  have e1 : g' = s.gens := m.gens
  have e2 : d' = s.drawn := m.drawn
  have e3 : os' = s.os := m.os
  subst e1 e2 e3
  exact hq h' tk' ⟨⟨L, es, ep, t, R, fun p hp => List.mem_of_mem_take (g.sub p hp), fun p hp => g.all p (by rw [sz, List.take_length]; exact hp)⟩, kp⟩
theorem set_rows {l : Addr} {xs : Array Value} {ks : List (Addr × List (Int × Int))} {Q : Value → Shared → Prop} (hh : A.handled = none) (hl : s.heap.IsList l xs) (hi : xs.toList = ks.map fun p => Value.ref p.1)
    (hk : ∀ p ∈ ks, NestedIs s.heap (keyR p.2) (.ref p.1)) (hfew : ks.length ≤ 300) (ndh : ∀ p ∈ ks, ∀ q ∈ ks, Rx.rowH p.2 = Rx.rowH q.2 → p.2 = q.2) (hu : A.units + 16 < cLine)
    (hq : ∀ h' tk, RowsLeft w s ks h' → Q (.ref s.heap.objs.size) { s with heap := h', toks := tk }) : wpAny (model P w) A (call (.type "set") [.ref l]) Q E s := by
  obtain ⟨c0, tl, hmro⟩ := F.called_set.mro
  have f1 := F.called_set.made
  have f2 := F.called_set.sub
  have f3 := F.called_set.notType
  have f4 := F.called_set.canCreate
  have f5 := F.typeCall_set_1 (.ref l)
  refine wpAny_call (codeAny_of_tree (wpAny_pure ⟨Code.quiet_builtin _ (by decide +kernel), codeAny_builtin F.entry_type_call ?_⟩))
  rw [Around.under_plain (weight_type_call_type "set" [.ref l] []) rfl]
  repeat (any_goals (first | assumption | wp_step))
  refine codeAny_mono (code_set_led1 (.ref l) (E := E) (Q₁ := fun v s1 => v = .ref s.heap.objs.size ∧ s1 = { s with heap := s.heap.push (Rx.emptySet w) }) ⟨rfl, rfl⟩) fun r s1 hr => ?_
  rcases r with e | fl
  · exact hr
  cases fl with
  | ret v =>
    obtain ⟨rfl, rfl⟩ := hr
    have there : (s.heap.push (Rx.emptySet w)).get? s.heap.objs.size = some (Rx.emptySet w) := Heap.get?_push_size _ rfl
    have ty : Shared.TypeIs { s with heap := s.heap.push (Rx.emptySet w) } (.ref s.heap.objs.size) "set" := ⟨_, there, rfl⟩
    have f6 := F.called_set.init.lookup
    have f7 := F.called_set.init.bind (.ref s.heap.objs.size)
    repeat (any_goals (first | assumption | wp_step))
    refine codeAny_mono (codeAny_call_builtin (R := wants (fun r s2 => r = .none ∧ ∃ h' tk, s2 = { s with heap := h', toks := tk } ∧ RowsLeft w s ks h') E) F.called_set.init.plain F.entry_set_init (check_set_init_1 ty ?_)) fun r2 s2 h2 => ?_
    · obtain ⟨⟨oc, od, dt, osl⟩, hol, hc, nl, hd⟩ := id hl
      simp only at hc hd
      subst hc hd
      have hol' : (s.heap.push (Rx.emptySet w)).get? l = some { cls := .type "list", dict := od, data := .seq xs nl, slots := osl } := Heap.get?_push_of_some _ hol
      have f8 := F.sub_list_set
      have f9 := F.sub_list_frozenset
      have f10 : (Value.type "list" == Value.type "dict") = false := by decide
      have hl1 : (s.heap.push (Rx.emptySet w)).IsList l xs := ⟨_, hol', rfl, nl, rfl⟩
      unfold Builtin.«set.__init__» noKeywords Builtin.Frozenset.updateFrom
      generalize hPI : pyIter = PI
      wp_walk
      subst hPI
      refine wpAny_pyIter_list hl1 (wpAny_bind (wpAny_runValue (set_rows_loop (by simp [hh]) hl hi hk hfew ndh ?_ fun h' tk z => ?_)))
      · simp only [Around.in1_units]; omega
      show wpAny _ _ _ _ _ _
      refine wpAny_pure ?_
      show wpAny _ _ (ret Value.none) _ _ _
      exact wpAny_pure ⟨rfl, h', tk, rfl, z⟩
    · rcases r2 with e | fl2
      · exact h2
      cases fl2 with
      | ret r =>
        obtain ⟨rfl, h', tk, rfl, z⟩ := h2
        repeat (any_goals (first | assumption | wp_step))
        exact hq _ _ z
      | _ => exact h2.elim
  | _ => exact hr.elim
end
/-- the set at a, without the rows themselves -/
def SetN0 (w : World) (h : Heap) (a : Addr) (L : List (Addr × List (Int × Int))) : Prop :=
  ∃ es ep t, (∃ o, h.get? a = some o ∧ o.ExactSet ∧ o.data = .set es ep t) ∧ es.toList = rowsN L ∧ TabF t (L.map fun p => Rx.rowH p.2) ∧ (L.map fun p => Rx.rowH p.2).Nodup ∧ t.plain = true ∧ (w.params.followText "set-order" = true ∨ t.led = true) ∧ L.length * 5 < t.mask * 3
def SetNO (w : World) (a : Addr) (L : List (Addr × List (Int × Int))) : HO := .ext fun h => SetN0 w h a L
theorem setNO_new {P : Program} {w : World} {H : Hp} {h : Heap} {a : Addr} {L : List (Addr × List (Int × Int))} {es : Array (Int × Value)} {ep : Nat} {t : SetTable} (R : SetN w h a L es ep t) : ObjOk P w H h a (SetNO w a L) := by
  obtain ⟨o, ho, r⟩ := R.ob
  refine ⟨⟨es, ep, t, ⟨o, ho, r⟩, R.rows, R.tab, R.nd, R.plain, R.led, R.room⟩, ⟨o, ho⟩, fun h1 h2 p k => ?_⟩
  obtain ⟨es', ep', t', ⟨o', ho', r'⟩, q⟩ := p
  exact ⟨es', ep', t', ⟨o', k o' ho', r'⟩, q⟩
theorem SetN0.full {w : World} {h : Heap} {a : Addr} {L : List (Addr × List (Int × Int))} (R : SetN0 w h a L) (ht : ∀ p ∈ L, NestedIs h (keyR p.2) (.ref p.1)) : ∃ es ep t, SetN w h a L es ep t := by
  obtain ⟨es, ep, t, h1, h2, h3, h4, h5, h6, h7⟩ := R
  exact ⟨es, ep, t, h1, h2, h3, h4, ht, h5, h6, h7⟩
end L2
namespace Rx
open PySem L2 PySem.Spec
open PyProof.Rows (seqObj)
section
variable {X : Cx}
theorem nested_rows {h : Heap} {v : Value} {r : List (Int × Int)} {as : List Addr} (x : Reads h v (dRow r) as) : NestedIs h (keyR r) v := by
  have all : ∀ (r : List (Int × Int)) (vs : List Value) (as : List Addr), ReadsAll h vs (r.map dPr) as → NestedAll h (r.map keyP) vs := fun r => by
    induction r with
    | nil => intro vs as x; cases x; exact .nil
    | cons p r ih =>
      intro vs as x
      cases x with
      | cons x1 x2 =>
        refine .cons ?_ (ih _ _ x2)
        cases x1 with
        | tuple g c d k =>
          refine .tup g c d ?_
          generalize Array.toList _ = l at k
          cases k with
          | cons k1 k2 =>
            cases k2 with
            | cons k2 k3 =>
              cases k3
              cases k1
              cases k2
              exact .cons (.int _ _) (.cons (.int _ _) .nil)
  cases x with
  | tuple g c d k => exact .tup g c d (all r _ _ k)
def refsN (ks : List (Addr × List (Int × Int))) : List V := ks.map fun p => V.ref p.1
theorem refsN_vals : ∀ {ks : List (Addr × List (Int × Int))} {us : List Value}, Vals (refsN ks) us → us = ks.map fun p => Value.ref p.1
  | [], _, .nil => rfl
  | p :: ks, _, .cons r t => by
    cases r
    rw [refsN_vals t]; rfl
theorem vals_refsN : ∀ (ks : List (Addr × List (Int × Int))), Vals (refsN ks) (ks.map fun p => Value.ref p.1)
  | [] => .nil
  | p :: ks => .cons rfl (vals_refsN ks)
theorem rp_rows {H : Hp} : ∀ (ks : List (Addr × List (Int × Int))), (∀ p ∈ ks, Rp H (.ref p.1) (dRow p.2)) → RpAll H (refsN ks) (ks.map fun p => dRow p.2)
  | [], _ => .nil
  | p :: ks, h => .cons (h p List.mem_cons_self) (rp_rows ks fun q hq => h q (List.mem_cons_of_mem _ hq))
theorem nodup_len {α : Type} : ∀ (l m : List α), l.Nodup → (∀ x ∈ l, x ∈ m) → l.length ≤ m.length
  | [], m, _, _ => Nat.zero_le _
  | x :: l, m, nd, h => by
    obtain ⟨n1, n2⟩ := List.nodup_cons.mp nd
    obtain ⟨a, b, e⟩ := List.append_of_mem (h x List.mem_cons_self)
    subst e
    have := nodup_len l (a ++ b) n2 fun y hy => by
      rcases List.mem_append.mp (h y (List.mem_cons_of_mem _ hy)) with z | z
      · exact List.mem_append_left _ z
      · rcases List.mem_cons.mp z with z | z
        · subst z; exact absurd hy n1
        · exact List.mem_append_right _ z
    rw [List.length_append] at this
    rw [List.length_cons, List.length_append, List.length_cons]
    omega
/-- set(xs) -/
def rSetN (w : World) : List V → Hp → VK → Prop := fun xs H Q => ∃ (l : Addr) (ks : List (Addr × List (Int × Int))), xs = [V.ref l] ∧ H l = some (.lst (refsN ks)) ∧ (∀ p ∈ ks, Rp H (.ref p.1) (dRow p.2)) ∧ ks.length ≤ 300 ∧ (∀ p ∈ ks, ∀ q ∈ ks, rowH p.2 = rowH q.2 → p.2 = q.2) ∧
  ∀ a L, H a = none → (∀ p ∈ L, p ∈ ks) → (∀ p ∈ ks, p.2 ∈ L.map (·.2)) → (L.map (·.2)).Nodup → L.length ≤ 300 → Q (.ref a) (upd H a (SetNO w a L))
theorem cr_setN (hc : X.calm = true) (hu : X.A.units + 64 < cLine) : CallR X (.type "set") (rSetN X.w) := by
  intro pins s σ H xs us Q I r h
  obtain ⟨l, ks, rfl, hl, hk, hf, nd, q⟩ := h
  rw [Vals.ref1 r]
  obtain ⟨its, rv, pl, hz⟩ := I.list (SqL.of hl)
  have hn : H s.heap.objs.size = none := I.hok.fresh (Nat.le_refl _)
  refine set_rows (P := X.prog) (w := X.w) (ks := ks) (I.ok.hd hc) pl.isList (by simpa using refsN_vals rv) (fun p hp => ?_) hf nd (by omega) fun h' tk ⟨⟨L, es, ep, t, R, g1, g2⟩, k⟩ => ?_
  · obtain ⟨as, rd⟩ := Dp.reads I _ _ _ (hk p hp).dp (show RelV (.ref p.1) (.ref p.1) from rfl)
    exact nested_rows rd
  · have ndk : (L.map (·.2)).Nodup := by
      have := R.nd
      rw [List.Nodup, List.pairwise_map] at this ⊢
      exact this.imp fun z e => z (by rw [e])
    have hlL : L.length ≤ 300 := by
      have q := nodup_len (L.map (·.2)) (ks.map (·.2)) ndk fun x hx => by
        obtain ⟨p, hp, e⟩ := List.mem_map.mp hx
        exact List.mem_map.mpr ⟨p, g1 p hp, e⟩
      rw [List.length_map, List.length_map] at q
      omega
    exact ⟨.ref s.heap.objs.size, _, I.laid (t' := tk) k (Nat.le_refl _) (setNO_new R), rfl, q _ L hn g1 g2 ndk hlL⟩
theorem perm_of_map {α β : Type} (f : α → β) : ∀ {vs ms : List β}, vs.Perm ms → ∀ L : List α, ms = L.map f → ∃ L1 : List α, L1.Perm L ∧ vs = L1.map f := by
  intro vs ms p
  induction p with
  | nil => intro L e; exact ⟨L, .refl _, e⟩
  | cons x p ih =>
    intro L e
    cases L with
    | nil => cases e
    | cons y L =>
      injection e with e1 e2
      obtain ⟨L1, p1, e3⟩ := ih L e2
      exact ⟨y :: L1, p1.cons y, by rw [List.map_cons, e1, e3]⟩
  | swap x y l =>
    intro L e
    match L, e with
    | [], e => cases e
    | [_], e => cases e
    | a :: b :: L, e =>
      injection e with e1 e2
      injection e2 with e2 e3
      exact ⟨b :: a :: L, .swap _ _ _, by rw [List.map_cons, List.map_cons, e1, e2, e3]⟩
  | trans p1 p2 ih1 ih2 =>
    intro L e
    obtain ⟨L2, q2, e2⟩ := ih2 L e
    obtain ⟨L1, q1, e1⟩ := ih1 L2 e2
    exact ⟨L1, q1.trans q2, e1⟩
theorem srtOk_perm {a b : List D} (p : a.Perm b) (h : srtOk b = true) : srtOk a = true := by
  unfold srtOk at h ⊢
  simp only [Bool.and_eq_true, Bool.or_eq_true, decide_eq_true_eq, List.all_eq_true] at h ⊢
  obtain ⟨⟨⟨h1, h2⟩, h3⟩, h4⟩ := h
  refine ⟨⟨⟨fun x hx y hy => h1 x (p.mem_iff.mp hx) y (p.mem_iff.mp hy), ?_⟩, fun x hx => h3 x (p.mem_iff.mp hx)⟩, by rw [p.length_eq]; exact h4⟩
  rcases h2 with h2 | h2
  · exact .inl fun x hx => h2 x (p.mem_iff.mp hx)
  · exact .inr fun x hx => h2 x (p.mem_iff.mp hx)
/-- sorted(set) -/
def rSortN (w : World) : List V → Hp → VK → Prop := fun vs H Q => ∃ (a : Addr) (L : List (Addr × List (Int × Int))), vs = [V.ref a] ∧ H a = some (SetNO w a L) ∧ (∀ p ∈ L, Rp H (.ref p.1) (dRow p.2)) ∧ srtOk (L.map fun p => dRow p.2) = true ∧ L.length ≤ 300 ∧
  ∀ (L' : List (Addr × List (Int × Int))) (p : Addr), L'.Perm L → L'.Pairwise (fun a b => led (dRow a.2) (dRow b.2) = true) → H p = none → Q (.ref p) (upd H p (.lst (refsN L')))
theorem each_maps {α : Type} {R : Value → α → Prop} {f : α → Value} : ∀ (l : List α), (∀ x ∈ l, R (f x) x) → PySem.W.EachIs R (l.map f) l
  | [], _ => .nil
  | x :: l, h => .cons (h x List.mem_cons_self) (each_maps l fun y hy => h y (List.mem_cons_of_mem _ hy))
theorem maps_each {α : Type} {f : α → Value} : ∀ {vs : List Value} {l : List α}, PySem.W.EachIs (fun v x => v = f x) vs l → vs = l.map f
  | _, _, .nil => rfl
  | _, _, .cons h t => by rw [h, maps_each t]; rfl
end
end Rx

set_option Elab.async false
set_option linter.all false
set_option maxRecDepth 100000
set_option maxHeartbeats 3200000
set_option autoImplicit false
/-! RxS37: sorted(set(xs)), xs an ascending list of rows. -/
namespace Rx
open PySem L2 PySem.Spec
open PyProof.Rows (seqObj)
open PySem.Calls PyProof.Rows PySem.W
section
variable {X : Cx}
theorem cr_sortN (hc : X.calm = true) (hu : X.A.units + 64 < cLine) : CallR X (.builtin "sorted") (rSortN X.w) := by
  intro pins s σ H vs us Q I r h
  obtain ⟨a, L, rfl, ha, hk, ok, hL, q⟩ := h
  obtain ⟨es, ep, t, R⟩ := SetN0.full (I.hok a _ ha).1 fun p hp => by
    obtain ⟨as, rd⟩ := Dp.reads I _ _ _ (hk p hp).dp (show RelV (.ref p.1) (.ref p.1) from rfl)
    exact nested_rows rd
  rw [Vals.ref1 r]
  obtain ⟨o, ho, hex, hd⟩ := R.ob
  refine Calls.call_function_entry kind_sorted plain_sorted entry_sorted (args_sorted1 _) ?_
  unfold Builtin.«sorted»
  refine wpAny_bind (m := checkCount "sorted" 1 1 _) (wpAny_pure ?_)
  refine wpAny_bind (collect_set (A := X.A.in1) (I.ok.hd hc) ⟨o, ho, hex.1, hd⟩ R.fits (by unfold scanBound; rw [rowsN_size R.rows]; omega) R.tab.ris R.led fun s1 vs k1 hz g1 o1 pm => ?_)
  have hes : es.toList.map (·.2) = L.map fun q => Value.ref q.1 := by
    rw [R.rows]
    unfold rowsN
    rw [List.map_map]; rfl
  rw [hes] at pm
  obtain ⟨L1, p1, ev⟩ := perm_of_map _ pm L rfl
  have hLv : vs.length ≤ sizeLine := by rw [ev, List.length_map, p1.length_eq, sizeLine_eq]; omega
  refine wpAny_bind (wpAny_newList ?_ hLv)
  have hoL : (s1.heap.push (seqObj "list" vs.toArray 0)).get? s1.heap.objs.size = some (seqObj "list" vs.toArray 0) := Heap.get?_push_size _ rfl
  obtain ⟨al, so, dp, hzl⟩ := srtOk_of (srtOk_perm (p1.map fun p => dRow p.2) ok)
  have er : EachIs (fun v (b : Addr × List (Int × Int)) => ∃ as, Reads (sortingHeap (s1.heap.push (seqObj "list" vs.toArray 0)) s1.heap.objs.size vs) v (dRow b.2) as) vs L1 := by
    rw [ev]
    refine each_maps L1 fun p hp => ?_
    obtain ⟨as, rd⟩ := Dp.reads I _ _ _ (hk p (p1.mem_iff.mp hp)).dp (show RelV (.ref p.1) (.ref p.1) from rfl)
    exact ⟨as, PyProof.Rows.Reads.keeps (fun b u e => sortingHeap_old (Nat.ne_of_lt (Heap.lt_size (k1 b u e))) (Heap.get?_push_of_some _ (k1 b u e))) rd⟩
  have e0 : EachIs (fun v (b : Addr × List (Int × Int)) => v = Value.ref b.1) vs L1 := by rw [ev]; exact each_maps L1 fun p _ => rfl
  have es2 := maps_each (sortVals_data (enc := fun b : Addr × List (Int × Int) => dRow b.2) false e0 er al)
  have eqs : L1.mergeSort (dataLe false fun b : Addr × List (Int × Int) => dRow b.2) = L1.mergeSort (fun a b => led (dRow a.2) (dRow b.2)) := PySem.W.sort_congr fun a _ b _ => (led_eq (dRow a.2) (dRow b.2)).symm
  rw [eqs] at es2
  have pm2 : (L1.mergeSort (fun a b => led (dRow a.2) (dRow b.2))).Perm L := (List.mergeSort_perm _ _).trans p1
  have pw2 : (L1.mergeSort (fun a b => led (dRow a.2) (dRow b.2))).Pairwise (fun a b => led (dRow a.2) (dRow b.2) = true) :=
    List.pairwise_mergeSort (le := fun a b : Addr × List (Int × Int) => led (dRow a.2) (dRow b.2)) (fun a b c => led_total.trans (dRow a.2) (dRow b.2) (dRow c.2)) (fun a b => by rcases led_total.total (dRow a.2) (dRow b.2) with z | z <;> simp [z]) L1
  generalize L1.mergeSort (fun a b => led (dRow a.2) (dRow b.2)) = L' at es2 pm2 pw2
  have bd : ∀ d ∈ L1.map (fun p => dRow p.2), X.A.in1.in1.units + d.depth < cLine := fun d hd => by
    have := dp d hd
    simp only [Around.in1_units]
    omega
  refine wpAny_bind (wpAny_holding (wpAny_call_entry slot_list_sort ⟨_, hoL, rfl⟩ entry_list_sort
    (list_sort_vals (s := { s1 with heap := s1.heap.push (seqObj "list" vs.toArray 0) }) (κ := dataKind (sortingHeap (s1.heap.push (seqObj "list" vs.toArray 0)) s1.heap.objs.size vs) (L1.map fun p => dRow p.2)) hoL (SortsAt.data (s := { s1 with heap := sortingHeap (s1.heap.push (seqObj "list" vs.toArray 0)) s1.heap.objs.size vs }) (each_map (R := fun v d => ∃ as, Reads (sortingHeap (s1.heap.push (seqObj "list" vs.toArray 0)) s1.heap.objs.size vs) v d as) (fun p : Addr × List (Int × Int) => dRow p.2) er) al so bd) hLv ⟨.none, rfl, wpAny_pure ⟨_, rfl, ?_⟩⟩) (args_list_sort _)))
  rw [es2]
  have hlen : (refsN L').length ≤ sizeLine := by unfold refsN; rw [List.length_map, pm2.length_eq, sizeLine_eq]; omega
  obtain ⟨c, hg⟩ := sortedHeap_at (vs := vs) (out := (L'.map fun q => Value.ref q.1).toArray) hoL
  have hp : s.heap.objs.size ≤ s1.heap.objs.size := hz
  have hn : H s1.heap.objs.size = none := I.hok.fresh hp
  have hv : Vals (refsN L') (L'.map fun q => Value.ref q.1) := vals_refsN L'
  have k : ∀ b u, s.heap.get? b = some u → (sortedHeap (s1.heap.push (seqObj "list" vs.toArray 0)) s1.heap.objs.size vs (L'.map fun q => Value.ref q.1).toArray).get? b = some u := fun b u e => by
    have q := k1 b u e
    have hlt := Heap.lt_size q
    rw [sortedHeap_old (Nat.ne_of_lt hlt) (by rw [size_push']; exact Nat.lt_succ_of_lt hlt)]
    exact Heap.get?_push_of_some _ q
  generalize sortedHeap (s1.heap.push (seqObj "list" vs.toArray 0)) s1.heap.objs.size vs (L'.map fun q => Value.ref q.1).toArray = hF at hg k ⊢
  have J : Inv X pins σ (upd H s1.heap.objs.size (.lst (refsN L'))) { s with heap := hF, gens := s1.gens, drawn := s1.drawn, toks := s1.toks } :=
    I.call (ch := []) (Un.laid k hp hn) (I.hok.laid k hp ⟨hlen, _, c, hv, hg⟩) (by rw [g1]; exact I.bare) (fun _ z => nomatch z)
  have e : ({ s1 with heap := hF } : Shared) = { s with heap := hF, gens := s1.gens, drawn := s1.drawn, toks := s1.toks } := by
    cases s1
    cases s
    cases o1
    rfl
  show ∃ v H', _
  rw [e]
  exact ⟨.ref s1.heap.objs.size, _, J, rfl, q L' _ pm2 pw2 hn⟩
end
/-! ### by data -/
theorem rwsOf_some : ∀ {ds : List D} {rs : List (List (Int × Int))}, rwsOf ds = some rs → ds = rs.map dRow
  | [], _, h => by cases h; rfl
  | d :: ds, rs, h => by
    cases d with
    | tuple xs =>
      replace h : ((prsOf xs).bind fun ps => (rwsOf ds).map (ps :: ·)) = some rs := h
      rw [Option.bind_eq_some_iff] at h
      obtain ⟨ps, h1, h2⟩ := h
      rw [Option.map_eq_some_iff] at h2
      obtain ⟨qs, h3, rfl⟩ := h2
      rw [List.map_cons, ← rwsOf_some h3, prsOf_some h1]
      rfl
    | _ => cases h
/-! ### sorted, each once -/
def LtD (x y : D) : Prop := led y x = false
theorem ltD_le {x y : D} (h : LtD x y) : led x y = true := (led_total.total x y).resolve_right (by rw [h]; exact Bool.false_ne_true)
theorem LtD.asym {x y : D} (h : LtD x y) : ¬ LtD y x := fun z => by
  have := ltD_le h
  rw [z] at this; cases this
theorem LtD.trans {x y z : D} (h : LtD x y) (k : LtD y z) : LtD x z := by
  cases e : led z x with
  | false => exact e
  | true =>
    have := led_total.trans z x y e (ltD_le h)
    rw [k] at this; cases this
def AsyD (ds : List D) : Prop := ∀ x ∈ ds, ∀ y ∈ ds, led x y = true → led y x = true → x = y
theorem insR_mem {x z : D} : ∀ {l : List D}, z ∈ insR x l → z = x ∨ z ∈ l
  | [], h => by simpa [insR] using h
  | y :: l, h => by
    unfold insR at h
    split at h
    · simpa using h
    · split at h
      · rcases List.mem_cons.mp h with e | e
        · exact .inr (e ▸ .head _)
        · rcases insR_mem e with e | e
          · exact .inl e
          · exact .inr (.tail _ e)
      · exact .inr h
theorem insR_old {x z : D} : ∀ {l : List D}, z ∈ l → z ∈ insR x l
  | y :: l, h => by
    unfold insR
    split
    · exact .tail _ h
    · split
      · rcases List.mem_cons.mp h with e | e
        · exact e ▸ .head _
        · exact .tail _ (insR_old e)
      · exact h
theorem insR_new {x : D} : ∀ {l : List D}, AsyD (x :: l) → x ∈ insR x l
  | [], _ => .head _
  | y :: l, a => by
    unfold insR
    split
    · exact .head _
    · rename_i h1
      split
      · exact .tail _ (insR_new fun p hp q hq => a p (by
          rcases List.mem_cons.mp hp with e | e
          · exact e ▸ .head _
          · exact .tail _ (.tail _ e)) q (by
          rcases List.mem_cons.mp hq with e | e
          · exact e ▸ .head _
          · exact .tail _ (.tail _ e)))
      · rename_i h2
        simp only [Bool.not_eq_true', Bool.not_eq_false] at h1 h2
        rw [a x (.head _) y (.tail _ (.head _)) h2 h1]
        exact .head _
theorem insR_asc {x : D} : ∀ {l : List D}, l.Pairwise LtD → (insR x l).Pairwise LtD
  | [], _ => by simp [insR]
  | y :: l, h => by
    obtain ⟨h1, h2⟩ := List.pairwise_cons.mp h
    unfold insR
    split
    · rename_i c
      have c : LtD x y := by simpa [LtD] using c
      refine List.pairwise_cons.mpr ⟨fun z hz => ?_, h⟩
      rcases List.mem_cons.mp hz with e | e
      · rw [e]; exact c
      · exact c.trans (h1 z e)
    · split
      · rename_i c
        have c : LtD y x := by simpa [LtD] using c
        refine List.pairwise_cons.mpr ⟨fun z hz => ?_, insR_asc h2⟩
        rcases insR_mem hz with e | e
        · rw [e]; exact c
        · exact h1 z e
      · exact h
theorem usrt_asc : ∀ {l : List D}, (usrt l).Pairwise LtD
  | [] => .nil
  | x :: l => insR_asc usrt_asc
theorem usrt_sub {y : D} : ∀ {l : List D}, y ∈ usrt l → y ∈ l
  | [], h => h
  | x :: l, h => by
    rcases insR_mem h with e | e
    · exact e ▸ .head _
    · exact .tail _ (usrt_sub e)
theorem usrt_mem {y : D} : ∀ {l : List D}, AsyD l → (y ∈ usrt l ↔ y ∈ l)
  | [], _ => Iff.rfl
  | x :: l, a => by
    have ih := usrt_mem (y := y) (l := l) fun p hp q hq => a p (.tail _ hp) q (.tail _ hq)
    refine ⟨usrt_sub, fun h => ?_⟩
    rcases List.mem_cons.mp h with e | e
    · rw [e]
      refine insR_new fun p hp q hq => a p ?_ q ?_
      · rcases List.mem_cons.mp hp with e | e
        · exact e ▸ .head _
        · exact .tail _ (usrt_sub e)
      · rcases List.mem_cons.mp hq with e | e
        · exact e ▸ .head _
        · exact .tail _ (usrt_sub e)
    · exact insR_old (ih.mpr e)
theorem lt_one : ∀ {l m : List D}, l.Pairwise LtD → m.Pairwise LtD → (∀ x, x ∈ l ↔ x ∈ m) → l = m
  | [], [], _, _, _ => rfl
  | [], y :: m, _, _, h => by have := (h y).mpr (.head _); cases this
  | x :: l, [], _, _, h => by have := (h x).mp (.head _); cases this
  | x :: l, y :: m, hl, hm, h => by
    obtain ⟨l1, l2⟩ := List.pairwise_cons.mp hl
    obtain ⟨m1, m2⟩ := List.pairwise_cons.mp hm
    have irr : ∀ z, ¬ LtD z z := fun z q => q.asym q
    have e : x = y := by
      rcases List.mem_cons.mp ((h x).mp (.head _)) with e | e
      · exact e
      · rcases List.mem_cons.mp ((h y).mpr (.head _)) with e2 | e2
        · exact e2.symm
        · exact absurd (m1 x e) (l1 y e2).asym
    subst e
    rw [lt_one l2 m2 fun z => ⟨fun hz => ?_, fun hz => ?_⟩]
    · rcases List.mem_cons.mp ((h z).mp (.tail _ hz)) with e | e
      · have := l1 z hz; rw [e] at this; exact absurd this (irr _)
      · exact e
    · rcases List.mem_cons.mp ((h z).mpr (.tail _ hz)) with e | e
      · have := m1 z hz; rw [e] at this; exact absurd this (irr _)
      · exact e
/-- where the rows of a list stand -/
theorem rp_rwsN {F : Hp} : ∀ {rs : List (List (Int × Int))} {vs : List V}, RpAll F vs (rs.map dRow) → ∃ ks : List (Addr × List (Int × Int)), vs = refsN ks ∧ ks.map (·.2) = rs ∧ ∀ p ∈ ks, Rp F (.ref p.1) (dRow p.2)
  | [], _, h => by cases h; exact ⟨[], rfl, rfl, fun p hp => by cases hp⟩
  | r :: rs, _, h => by
    cases h with
    | cons h1 h2 =>
      obtain ⟨ks, rfl, e, hk⟩ := rp_rwsN h2
      have h1' := h1
      unfold dRow at h1'
      cases h1' with
      | @tup a vs ds ha hr =>
        refine ⟨(a, r) :: ks, rfl, by rw [List.map_cons, e], fun p hp => ?_⟩
        rcases List.mem_cons.mp hp with z | hp
        · rw [z]; exact h1
        · exact hk p hp
section
variable {X : Cx} {G : Cg} {a : Expr} {da : Ex} {pos p1' p2' p3' : Pos}
theorem ssu_args {σ : L2.St} {H : Hp} {Q : VK} (h : tD G (dSsu da) σ H Q) : tO G da σ H fun v H1 => ∃ A F w d e, Same F H1 ∧ Omg G.C A F H1 w ∧ Ro G.K A F H1 v d ∧ ssuP d = some e ∧ Rx.Fin G A F H1 w e Q := by
  obtain ⟨A, F, r, w, x, w', rel, e, post⟩ := h
  unfold dSsu at e
  cases hs : da G.c r w with
  | none => rw [hs] at e; cases e
  | some q =>
    obtain ⟨x1, w1⟩ := q
    rw [hs] at e
    cases x1 with
    | exc y => cases e; exact ⟨A, F, r, w, .exc y, _, rel, hs, post⟩
    | val d =>
      simp only at e
      rw [Option.map_eq_some_iff] at e
      obtain ⟨v, e1, e2⟩ := e
      cases e2
      exact ⟨A, F, r, w, .val d, _, rel, hs, fun u A1 F1 H1 s1 o1 r1 => ⟨A1, F1, _, d, v, s1.fh, o1, r1, e1, fun v A2 F2 H2 s2 o2 r2 => post v A2 F2 H2 (s1.trans s2) o2 r2⟩⟩
theorem srtOk_sub {a b : List D} (h : ∀ x ∈ a, x ∈ b) (hl : a.length ≤ 300) (ok : srtOk b = true) : srtOk a = true := by
  unfold srtOk at ok ⊢
  simp only [Bool.and_eq_true, Bool.or_eq_true, decide_eq_true_eq, List.all_eq_true] at ok ⊢
  obtain ⟨⟨⟨h1, h2⟩, h3⟩, h4⟩ := ok
  refine ⟨⟨⟨fun x hx y hy => h1 x (h x hx) y (h y hy), ?_⟩, fun x hx => h3 x (h x hx)⟩, by unfold zL; omega⟩
  rcases h2 with h2 | h2
  · exact .inl fun x hx => h2 x (h x hx)
  · exact .inr fun x hx => h2 x (h x hx)
theorem pd_ssu (hc : X.calm = true) (hK : G.K = X.K) (hu : X.A.units + 64 < cLine) (hg : Gl X "sorted") (hm : X.mg "sorted" = none) (hg2 : Gl X "set") (hm2 : X.mg "set" = none) (ha : PE X a (tO G da)) (hst : starEach [a] X.env = (false, eval a X.env) :: starEach [] X.env)
    (hst2 : starEach [.Call (.Name "set" p2') [a] [] p3'] X.env = (false, eval (.Call (.Name "set" p2') [a] [] p3') X.env) :: starEach [] X.env) :
    PE X (.Call (.Name "sorted" p1') [.Call (.Name "set" p2') [a] [] p3'] [] pos) (tD G (dSsu da)) := by
  refine peI (pe_callB (cr_sortN hc hu) hg hm (by decide +kernel) (pa_cons (pe_callTy (cr_setN hc hu) hg2 hm2 (by decide +kernel) (pa_cons ha pa_nil hst) (by decide) (by decide) hst rfl) pa_nil hst2) (by decide) (by decide) hst2 rfl)
    fun σ H Q h => tO_imp (ssu_args h) fun v H1 ⟨A, F, w, d1, d, s, o, r1, e, f⟩ => ?_
  cases d1 with
  | list ds =>
    obtain ⟨l, vs, rfl, hl, rp⟩ := r1.lst s
    replace e : ((rwsOf ds).bind fun rs => if (decide (rs.length ≤ 300) && (inj1 rs && (asy1 rs && srtOk ds))) = true then some (PyData.list (usrt ds)) else none) = some d := e
    rw [Option.bind_eq_some_iff] at e
    obtain ⟨rs, hrs, e⟩ := e
    split at e
    · rename_i hcnd
      cases e
      simp only [Bool.and_eq_true, decide_eq_true_eq] at hcnd
      obtain ⟨c1, c2, c3, c4⟩ := hcnd
      have := rwsOf_some hrs
      subst this
      obtain ⟨ks, rfl, ek, hk⟩ := rp_rwsN rp
      have inK : ∀ p ∈ ks, p.2 ∈ rs := fun p hp => by rw [← ek]; exact List.mem_map.mpr ⟨p, hp, rfl⟩
      have lk : ks.length = rs.length := by rw [← ek, List.length_map]
      have hinj : ∀ p ∈ ks, ∀ q ∈ ks, rowH p.2 = rowH q.2 → p.2 = q.2 := fun p hp q hq e => by
        have z := List.all_eq_true.mp (List.all_eq_true.mp c2 p.2 (inK p hp)) q.2 (inK q hq)
        rw [decide_eq_true e] at z
        exact of_decide_eq_true (by simpa using z)
      have hasy : ∀ a ∈ rs, ∀ b ∈ rs, led (dRow a) (dRow b) = true → led (dRow b) (dRow a) = true → a = b := fun a ha b hb e1 e2 => by
        have z := List.all_eq_true.mp (List.all_eq_true.mp c3 a ha) b hb
        rw [e1, e2] at z
        exact of_decide_eq_true (by simpa using z)
      have asyD : AsyD (rs.map dRow) := fun x hx y hy e1 e2 => by
        obtain ⟨a, ha, rfl⟩ := List.mem_map.mp hx
        obtain ⟨b, hb, rfl⟩ := List.mem_map.mp hy
        rw [hasy a ha b hb e1 e2]
      refine ⟨l, ks, rfl, hl, fun p hp => Rp.mono s _ _ (hk p hp), by omega, hinj, fun p L hp hsub hall ndk hlen => ⟨p, L, rfl, upd_same, fun y hy => ?_, ?_, hlen, fun L' q pm' asc hq => ?_⟩⟩
      · exact Rp.mono (fun b x e => keep_new hp b x (s b x e)) _ _ (hk y (hsub y hy))
      · refine srtOk_sub (b := rs.map dRow) (fun x hx => ?_) (by rw [List.length_map]; exact hlen) c4
        obtain ⟨y, hy, rfl⟩ := List.mem_map.mp hx
        exact List.mem_map.mpr ⟨y.2, inK y (hsub y hy), rfl⟩
      · have memL : ∀ y ∈ L', y ∈ ks := fun y hy => hsub y (pm'.mem_iff.mp hy)
        have ndk' : L'.Pairwise fun y z => y.2 ≠ z.2 := List.pairwise_map.mp ((List.Perm.nodup_iff (List.Perm.map Prod.snd pm')).mpr ndk)
        have eq : L'.map (fun p => dRow p.2) = usrt (rs.map dRow) := by
          refine lt_one ?_ usrt_asc fun x => ?_
          · rw [List.pairwise_map]
            refine (asc.and ndk').imp_of_mem fun {y z} hy hz ⟨h1, h2⟩ => ?_
            cases e : led (dRow z.2) (dRow y.2) with
            | false => exact e
            | true => exact absurd (hasy _ (inK y (memL y hy)) _ (inK z (memL z hz)) h1 e) h2
          · rw [usrt_mem asyD]
            constructor
            · intro hx
              obtain ⟨y, hy, rfl⟩ := List.mem_map.mp hx
              exact List.mem_map.mpr ⟨y.2, inK y (memL y hy), rfl⟩
            · intro hx
              obtain ⟨a, ha, rfl⟩ := List.mem_map.mp hx
              rw [← ek] at ha
              obtain ⟨k, hk1, rfl⟩ := List.mem_map.mp ha
              obtain ⟨y, hy, ey⟩ := List.mem_map.mp (hall k hk1)
              exact List.mem_map.mpr ⟨y, pm'.mem_iff.mpr hy, by rw [ey]⟩
        rw [← eq] at f
        have st1 : Step A F H1 A F (upd H1 p (SetNO X.w p L)) := .newO s hp
        have o1 := o.new st1 (keep_new hp)
        refine f _ A _ _ (st1.trans (.new st1.fh hq)) (o1.new (.new st1.fh hq) (keep_new hq)) (.inl (.lst upd_same ?_))
        exact RpAll.mono (Fin.tup.same_upd_ (st1.fh.free hq)) _ _ (rp_rows L' fun y hy => hk y (memL y hy))
    · cases e
  | _ => cases e
end
end Rx

set_option Elab.async false
set_option linter.all false
set_option maxRecDepth 100000
set_option maxHeartbeats 3200000
set_option autoImplicit false
/-! RxS38: a dict whose keys are rows. -/
namespace Rx
open PySem L2 PySem.Spec
abbrev DL := List (Addr × List (Int × Int) × Option Addr)
/-! ### keys -/
theorem keyP_inj {p q : Int × Int} (e : keyP p = keyP q) : p = q := by
  obtain ⟨a, b⟩ := p
  obtain ⟨c, d⟩ := q
  unfold keyP at e
  injection e with e
  injection e with e1 e2
  injection e1 with e1
  injection e2 with e2 _
  injection e2 with e2
  simp only at e1 e2
  rw [e1, e2]
theorem keyR_inj {r s : List (Int × Int)} (h : keyR r = keyR s) : r = s := by
  have key : ∀ r s : List (Int × Int), r.map keyP = s.map keyP → r = s := fun r => by
    induction r with
    | nil => intro s h; cases s with
      | nil => rfl
      | cons _ _ => cases h
    | cons p r ih =>
      intro s h
      cases s with
      | nil => cases h
      | cons q s =>
        injection h with h1 h2
        rw [keyP_inj h1, ih s h2]
  unfold keyR at h
  injection h with h
  exact key r s h
def xsN (L : DL) : List (NestedKey × Addr × Value) := L.map fun x => (keyR x.2.1, x.1, ovV x.2.2)
def fdD (L : DL) (k : List (Int × Int)) : Option (Addr × List (Int × Int) × Option Addr) := L.find? fun x => decide (x.2.1 = k)
theorem atKey_xs (L : DL) (k : List (Int × Int)) : atKey (xsN L) (keyR k) = (fdD L k).map fun x => (x.1, ovV x.2.2) := by
  unfold atKey xsN fdD
  rw [List.find?_map]
  have e : ((fun x : NestedKey × Addr × Value => decide (x.1 = keyR k)) ∘ fun x : Addr × List (Int × Int) × Option Addr => (keyR x.2.1, x.1, ovV x.2.2)) = fun x => decide (x.2.1 = k) := funext fun x => decide_eq_decide.mpr ⟨keyR_inj, fun h => by show keyR x.2.1 = keyR k; rw [h]⟩
  rw [e, Option.map_map]
  rfl
section
variable {P : Program} {w : World} {h : Heap} {a : Addr} {L : DL}
theorem entries_xs : (xsN L).map (entryOfKey (nestedKind P w)) = L.map fun x => (⟨rowH x.2.1, .ref x.1, ovV x.2.2⟩ : DictEntry) := by
  unfold xsN
  rw [List.map_map]
  refine List.map_congr_left fun x _ => ?_
  show (⟨(keyR x.2.1).hash w, .ref x.1, ovV x.2.2⟩ : DictEntry) = _
  rw [keyR_hash]
theorem dct_full (R : DctR h a L) (tup : ∀ x ∈ L, NestedIs h (keyR x.2.1) (.ref x.1)) (nd : (L.map (·.2.1)).Nodup) : h.DictOfH (nestedKind P w) a (xsN L) := by
  obtain ⟨hd, o, es, ep, h1, h2, h3, h4⟩ := R
  refine ⟨o, es, ep, h1, h2, h3, by rw [h4, entries_xs], fun y hy => ?_, ?_⟩
  · obtain ⟨x, hx, rfl⟩ := List.mem_map.mp hy
    exact ⟨tup x hx, by have := keyR_depth x.2.1; show (keyR x.2.1).depth ≤ 8; omega⟩
  · unfold xsN
    rw [List.map_map, List.Nodup, List.pairwise_map]
    rw [List.Nodup, List.pairwise_map] at nd
    exact nd.imp fun z e => z (keyR_inj e)
theorem dct_of (hd : (a == sysModules) = false) (R : h.DictOfH (nestedKind P w) a (xsN L)) : DctR h a L := by
  obtain ⟨o, es, ep, h1, h2, h3, h4, _⟩ := R
  exact ⟨hd, o, es, ep, h1, h2, h3, by rw [h4, entries_xs]⟩
theorem dctO_new {H : Hp} (R : DctR h a L) : ObjOk P w H h a (DctO a L) := by
  obtain ⟨hd, o, es, ep, h1, r⟩ := R
  refine ⟨⟨hd, o, es, ep, h1, r⟩, ⟨o, h1⟩, fun g1 g2 p k => ?_⟩
  obtain ⟨hd', o', es', ep', q1, q⟩ := p
  exact ⟨hd', o', es', ep', k o' q1, q⟩
end
def oV : Option Addr → V
  | none => .non
  | some c => .ref c
theorem oV_rel : ∀ o : Option Addr, RelV (oV o) (ovV o)
  | none => rfl
  | some _ => rfl
section
variable {X : Cx} {pos : Pos}
/-- a dict of rows stands at a -/
structure DAt (H : Hp) (a : Addr) (L : DL) : Prop where
  at_ : H a = some (DctO a L)
  row : ∀ e ∈ L, Rp H (.ref e.1) (dRow e.2.1)
  nd : (L.map (·.2.1)).Nodup
theorem nest_of {pins : List (Addr × Obj)} {σ : L2.St} {H : Hp} {s : Shared} {b : Addr} {k : List (Int × Int)} (I : Inv X pins σ H s) (r : Rp H (.ref b) (dRow k)) : (nestedKind X.prog X.w).is s.heap (keyR k) b := by
  obtain ⟨as, rd⟩ := Dp.reads I _ _ _ r.dp (show RelV (.ref b) (.ref b) from rfl)
  exact ⟨nested_rows rd, by have := keyR_depth k; omega⟩
theorem DAt.full {pins : List (Addr × Obj)} {σ : L2.St} {H : Hp} {s : Shared} {a : Addr} {L : DL} (I : Inv X pins σ H s) (d : DAt H a L) : DctR s.heap a L ∧ s.heap.DictOfH (nestedKind X.prog X.w) a (xsN L) := by
  have R : DctR s.heap a L := (I.hok a _ d.at_).1
  exact ⟨R, dct_full R (fun x hx => (nest_of I (d.row x hx)).1) d.nd⟩
/-- x not in d -/
def rNinD : R2 := fun x y H Q => ∃ (b a : Addr) (k : List (Int × Int)) (L : DL), x = .ref b ∧ y = .ref a ∧ Rp H (.ref b) (dRow k) ∧ DAt H a L ∧ Q (.bl (!(fdD L k).isSome)) H
theorem op_ninD (hu : X.A.units + 64 < cLine) : OpR X (compareOp .NotIn) rNinD := by
  intro pins s σ H x y v u Q I rx ry h
  obtain ⟨b, a, k, L, rfl, rfl, rb, d, q⟩ := h
  cases rx
  cases ry
  obtain ⟨R, D⟩ := d.full I
  refine notIn_keyed (knd := nestedKind X.prog X.w) (k := keyR k) (kvs := pairsH (xsN L)) ?_ (nest_of I rb) R.1 ⟨_, D, rfl⟩ ?_
  · show X.A.in1.units + 8 < cLine
    simp only [Around.in1_units]
    omega
  · rw [valueAt_pairsH, Option.isSome_map, atKey_xs, Option.isSome_map]
    exact ⟨.bl _, H, I.tok _, rfl, q⟩
/-- d[x] -/
def rGetD : R2 := fun x y H Q => ∃ (a b : Addr) (k : List (Int × Int)) (L : DL) (e : Addr × List (Int × Int) × Option Addr), x = .ref a ∧ y = .ref b ∧ Rp H (.ref b) (dRow k) ∧ DAt H a L ∧ fdD L k = some e ∧ Q (oV e.2.2) H
theorem ix_getD (hu : X.A.units + 64 < cLine) : IxR X rGetD := by
  intro value slice pins s σ H x y v u Q I rx ry h hs
  obtain ⟨a, b, k, L, e, rfl, rfl, rb, d, hv, q⟩ := h
  obtain rfl : v = Value.ref a := rx
  obtain rfl : u = Value.ref b := ry
  obtain ⟨R, D⟩ := d.full I
  refine PyProof.Rows.tail_any D.typeIs slot_dict_getitem.lookup (getItem_keyed (knd := nestedKind X.prog X.w) (k := keyR k) (kvs := pairsH (xsN L)) (v := ovV e.2.2) ?_ (nest_of I rb) ⟨_, D, rfl⟩ ?_ ⟨oV e.2.2, H, I.tok _, oV_rel _, q⟩) hs
  · show X.A.in1.units + 8 < cLine
    simp only [Around.in1_units]
    omega
  · rw [valueAt_pairsH, atKey_xs, hv]
    rfl
/-- d[k] = v -/
def rSetDN : TSet := fun o i v H Q => ∃ (a b c : Addr) (k : List (Int × Int)) (L : DL), o = .ref a ∧ i = .ref b ∧ v = .ref c ∧ Rp H (.ref b) (dRow k) ∧ DAt H a L ∧ fdD L k = none ∧ L.length ≤ 1000 ∧ Q (upd H a (DctO a (L ++ [(b, k, some c)])))
theorem set_dctN (hu : X.A.units + 64 < cLine) : PSet X rSetDN := by
  intro pins s σ H o i v ov iv u Q I ro ri rv h
  obtain ⟨a, b, c, k, L, rfl, rfl, rfl, rb, d, hv, hl, q⟩ := h
  obtain rfl : ov = Value.ref a := ro
  obtain rfl : iv = Value.ref b := ri
  obtain rfl : u = Value.ref c := rv
  obtain ⟨R, D⟩ := d.full I
  have hn : atKey (xsN L) (keyR k) = none := by rw [atKey_xs, hv]; rfl
  refine wpAny_setItem_heap (hsz := by unfold xsN; rw [List.length_map, sizeLine_eq]; omega) (knd := nestedKind X.prog X.w) (k := keyR k) ?_ (nest_of I rb) D fun h' D' hs => ⟨_, ?_, q⟩
  · show X.A.in1.units + 8 < cLine
    simp only [Around.in1_units]
    omega
  · rw [storedH_new hn] at D'
    have e : xsN L ++ [(keyR k, b, Value.ref c)] = xsN (L ++ [(b, k, some c)]) := by
      unfold xsN
      rw [List.map_append]
      rfl
    rw [e] at D'
    have he : ∃ q, h'.get? a = some q := let ⟨q, _, _, hq, _⟩ := D'; ⟨q, hq⟩
    exact d_write I (by rw [d.at_]; exact True.intro) hs he (dctO_new (dct_of R.1 D'))
theorem vv1 {p : V × V} {vs : List (Value × Value)} (h : L2.VV [p] vs) : ∃ q : Value × Value, vs = [q] ∧ RelV p.1 q.1 ∧ RelV p.2 q.2 := by
  cases h with
  | @cons a b as bs h t =>
    cases t
    exact ⟨b, rfl, h.1, h.2⟩
/-- {k: None} -/
def tDct (i : Nat) : TE := fun σ H Q => ∃ (b : Addr) (k : List (Int × Int)), σ[i]? = some (some (.ref b)) ∧ Rp H (.ref b) (dRow k) ∧ ∀ p, H p = none → Q (.ref p) (upd H p (DctO p [(b, k, none)]))
theorem pe_dct1 {i j : Nat} {x : Str} {p2 p3 : Pos} (hu : X.A.units + 64 < cLine) (hN : X.N[i]? = some x) (hv : Vis X.env.scope x) (hd : (x == ("__debug__" : Str)) = false) (hcd : (x == ("__classdict__" : Str)) = false) :
    PE X (.Dict [some (.Name x p2)] [.Constant .none j p3] pos) (tDct i) := by
  refine ⟨fun pins s σ H Q I h => ?_⟩
  obtain ⟨b, k, hσ, rb, q⟩ := h
  have hn := I.hok.fresh (Nat.le_refl s.heap.objs.size)
  have R0 : DctR (s.heap.push { cls := .type "dict", data := .dict #[] }) s.heap.objs.size [] := ⟨beq_eq_false_iff_ne.mpr (Ne.symm (Nat.ne_of_lt I.big)), _, #[], 0, Heap.get?_push_size _ rfl, ⟨rfl, rfl, rfl⟩, rfl, rfl⟩
  have I1 := I.laid (a := s.heap.objs.size) (o := DctO s.heap.objs.size []) (h' := s.heap.push { cls := .type "dict", data := .dict #[] }) (t' := s.toks) (fun _ _ q => Heap.get?_push_of_some _ q) (Nat.le_refl _) (dctO_new R0)
  have rb1 : Rp (upd H s.heap.objs.size (DctO s.heap.objs.size [])) (.ref b) (dRow k) := Rp.mono (fun c u e => keep_new hn c u e) _ _ rb
  have P2 := L2.pps_cons (pos := pos) (pe_var (pos := p2) hN hv hd hcd) (pe_non (X := X) (j := j) (pos := p3)) L2.pps_nil
  have hsh := zip_pairTrees [some (.Name x p2)] [.Constant .none j p3] X.env pos rfl rfl
  rw [arm_eval_Dict, hsh, dictDisplay_pairs _ (by simp [pairTrees]) (by simp [pairTrees])]
  refine wpAny_bind (wpAny_standAt (wpAny_bind (wpAny_subDictH (knd := nestedKind X.prog X.w) ?_ (by simp [pairTrees]) (thn (P2.run pins _ σ _ (fun ps H2 => ps = [(.ref b, .non)] ∧ H2 = upd H s.heap.objs.size (DctO s.heap.objs.size [])) I1 ⟨.ref b, hσ, rfl, rfl⟩) fun vs s2 ⟨ps, H2, I2, rel, e1, e2⟩ => ?_))))
  · show X.A.units + 8 < cLine
    omega
  subst e1 e2
  obtain ⟨⟨v1, v2⟩, rfl, r0a, r0b⟩ := vv1 rel
  obtain rfl : v1 = Value.ref b := r0a
  obtain rfl : v2 = Value.none := r0b
  have D0 : DctR s2.heap s.heap.objs.size [] := (I2.hok _ _ upd_same).1
  refine ⟨[(keyR k, b, .none)], ⟨rfl, rfl, nest_of I2 rb1, trivial⟩, dct_full D0 (fun x hx => by cases hx) List.nodup_nil, fun h' tk D' hs => wpAny_pure ?_⟩
  have e : storedAllH [] [(keyR k, b, Value.none)] = xsN [(b, k, none)] := rfl
  rw [e] at D'
  have he : ∃ q, h'.get? s.heap.objs.size = some q := let ⟨q, _, _, hq, _⟩ := D'; ⟨q, hq⟩
  have J := d_write (t' := tk) I2 (by rw [upd_same]; exact True.intro) hs he (dctO_new (H := upd (upd H s.heap.objs.size (DctO s.heap.objs.size [])) s.heap.objs.size (DctO s.heap.objs.size [(b, k, none)])) (dct_of D0.1 D'))
  have eu : upd (upd H s.heap.objs.size (DctO s.heap.objs.size [])) s.heap.objs.size (DctO s.heap.objs.size [(b, k, none)]) = upd H s.heap.objs.size (DctO s.heap.objs.size [(b, k, none)]) := by
    funext c
    by_cases hc : c = s.heap.objs.size
    · rw [hc, upd_same, upd_same]
    · rw [upd_ne hc, upd_ne hc, upd_ne hc]
  rw [eu] at J
  exact ⟨.ref s.heap.objs.size, _, J, rfl, q _ hn⟩
end
end Rx

set_option Elab.async false
set_option linter.all false
set_option maxRecDepth 100000
set_option maxHeartbeats 3200000
set_option autoImplicit false
/-! RxS39: dicts of rows, by data; x = q.pop(0). -/
namespace Rx
open PySem L2 PySem.Spec
theorem isO'_eq {d : D} {i : Nat} (h : isO' d = some i) : d = dObj i := by
  unfold isO' at h
  split at h
  · split at h
    · rename_i j hj
      cases h
      unfold dObj
      rw [Int.toNat_of_nonneg hj]
    · cases h
  · cases h
section
variable {K : PySem.W.Frag} {A : List Addr} {F H : Hp} {v : V}
theorem Rt.objD {i : Nat} (h : Rt K A F v (dObj i)) : ∃ a, A[i]? = some a ∧ v = .ref a := by
  rcases h with h | ⟨j, a, e, h1, h2⟩ | ⟨_, _, e, _⟩ | ⟨_, _, e, _⟩
  · cases h
  · unfold dObj at e
    injection e with e; injection e with e _; injection e with e _; injection e with e
    have : i = j := by omega
    subst this
    exact ⟨a, h1, h2⟩
  · unfold dObj dScript at e; injection e with e; injection e with e _; injection e with e _; cases e
  · unfold dObj dX at e; injection e with e; injection e with e _; injection e with e _; cases e
theorem Ro.objD {i : Nat} (h : Ro K A F H v (dObj i)) : ∃ a, A[i]? = some a ∧ v = .ref a := by
  rcases h with h | ⟨_, _, _, _, e, _⟩
  · exact h.objD
  · unfold dObj at e; cases e
theorem Ro.row {k : List (Int × Int)} (h : Ro K A F H v (dRow k)) : ∃ b, v = .ref b ∧ Rp F (.ref b) (dRow k) := by
  obtain ⟨b, vs, rfl, hb, rp⟩ := Ro.tup (ds := k.map dPr) h
  exact ⟨b, rfl, .tup hb rp⟩
end
theorem rwsOf_one {d : D} {rs : List (List (Int × Int))} (h : rwsOf [d] = some rs) : ∃ k, d = dRow k := by
  have e := rwsOf_some h
  cases rs with
  | nil => cases e
  | cons k rs => injection e with e _; exact ⟨k, e⟩
theorem rwsOf_two {d d' : D} {rs : List (List (Int × Int))} (h : rwsOf [d, d'] = some rs) : ∃ k l, d = dRow k ∧ d' = dRow l := by
  have e := rwsOf_some h
  match rs, e with
  | [], e => cases e
  | [_], e => cases e
  | k :: l :: _, e =>
    injection e with e1 e
    injection e with e2 _
    exact ⟨k, l, e1, e2⟩
theorem eqd_dPr (p q : Int × Int) : eqd (dPr p) (dPr q) = decide (p = q) := by
  have : eqd (dPr p) (dPr q) = ((p.1 == q.1) && ((p.2 == q.2) && true)) := rfl
  rw [this, Bool.and_true, Bool.eq_iff_iff]
  simp [Prod.ext_iff]
theorem eqd_dRow (a b : List (Int × Int)) : eqd (dRow a) (dRow b) = decide (a = b) := by
  have key : ∀ a b : List (Int × Int), eqdAll (a.map dPr) (b.map dPr) = decide (a = b) := fun a => by
    induction a with
    | nil => intro b; cases b with
      | nil => rfl
      | cons _ _ => rfl
    | cons p a ih =>
      intro b
      cases b with
      | nil => rfl
      | cons q b =>
        show (eqd (dPr p) (dPr q) && eqdAll (a.map dPr) (b.map dPr)) = _
        rw [eqd_dPr, ih, Bool.eq_iff_iff]
        simp
  exact key a b
theorem DcR.rows {F : Hp} : ∀ {L : DL} {fs : Fs}, DcR F L fs → ∀ e ∈ L, Rp F (.ref e.1) (dRow e.2.1)
  | _, _, .nil, e, he => by cases he
  | _, _, .cons r t, e, he => by
    rcases List.mem_cons.mp he with z | z
    · rw [z]; exact r.choose_spec.2.1
    · exact DcR.rows t e z
theorem DcR.len {F : Hp} : ∀ {L : DL} {fs : Fs}, DcR F L fs → L.length = fs.length
  | _, _, .nil => rfl
  | _, _, .cons _ t => by rw [List.length_cons, List.length_cons, DcR.len t]
theorem DcR.snoc {F : Hp} {x : Addr × List (Int × Int) × Option Addr} {q : Str × D} (h : DcE F x q) : ∀ {L : DL} {fs : Fs}, DcR F L fs → DcR F (L ++ [x]) (fs ++ [q])
  | _, _, .nil => .cons h .nil
  | _, _, .cons r t => .cons r (DcR.snoc h t)
theorem DcR.find {F : Hp} (k : List (Int × Int)) : ∀ {L : DL} {fs : Fs}, DcR F L fs → (fdD L k = none ∧ atD fs (dRow k) = none) ∨ ∃ e dv, fdD L k = some e ∧ atD fs (dRow k) = some dv ∧ Rp F (oV e.2.2) dv
  | _, _, .nil => .inl ⟨rfl, rfl⟩
  | x :: L, q :: fs, .cons r t => by
    obtain ⟨dv, e, h1, h2⟩ := r
    subst e
    have e1 : atD (kvE (dRow x.2.1) dv :: fs) (dRow k) = if eqd (dRow x.2.1) (dRow k) = true then some dv else atD fs (dRow k) := rfl
    have e2 : fdD (x :: L) k = if decide (x.2.1 = k) = true then some x else fdD L k := by
      unfold fdD
      rw [List.find?_cons]
      cases decide (x.2.1 = k) <;> rfl
    rw [e1, e2, eqd_dRow]
    by_cases hk : x.2.1 = k
    · rw [decide_eq_true hk, if_pos rfl, if_pos rfl]
      refine .inr ⟨x, dv, rfl, rfl, ?_⟩
      rcases h2 with ⟨h2, rfl⟩ | ⟨b, ds, h2, rfl, hr⟩
      · rw [h2]; exact .non
      · rw [h2]; exact hr
    · rw [decide_eq_false hk, if_neg (by decide), if_neg (by decide)]
      exact DcR.find k t
section
variable {C : Addr} {A : List Addr} {F H : Hp} {w : Om}
theorem Omg.objD (om : Omg C A F H w) {i : Nat} {a : Addr} (h : A[i]? = some a) : ∃ fs L, w[i]? = some fs ∧ H a = some (DctO a L) ∧ F a = none ∧ DcR F L fs ∧ (L.map (·.2.1)).Nodup := by
  obtain ⟨hl, _⟩ := List.getElem?_eq_some_iff.mp h
  have hw : i < w.length := by rw [← om.len]; exact hl
  obtain ⟨L, e1, e2, e3, e4⟩ := om.at_ i a w[i] h (List.getElem?_eq_getElem hw)
  exact ⟨w[i], L, List.getElem?_eq_getElem hw, e1, e2, e3, e4⟩
theorem Step.mkD {p : Addr} {L : DL} (h : Same F H) (hp : H p = none) : Step A F H (A ++ [p]) F (upd H p (DctO p L)) := by
  refine ⟨⟨[p], rfl⟩, .refl _, fun b u q => ?_, fun b o q _ => ?_, fun b φ q => ⟨φ, ?_⟩, fun b o q => rfl⟩
  · have q2 := h b u q
    rw [upd_ne (ne_of_none q2 hp)]; exact q2
  · rw [upd_ne (ne_of_none q hp)]; exact q
  · rw [upd_ne (ne_of_none q hp)]; exact q
theorem Omg.mkD (om : Omg C A F H w) {p : Addr} {L : DL} {fs : Fs} (h : Same F H) (hp : H p = none) (r : DcR F L fs) (nd : (L.map (·.2.1)).Nodup) : Omg C (A ++ [p]) F (upd H p (DctO p L)) (w ++ [fs]) := by
  have out : ∀ a ∈ A, a ≠ p := fun a ha => by
    obtain ⟨i, hi⟩ := List.getElem?_of_mem ha
    obtain ⟨_, _, _, q, _⟩ := om.objD hi
    exact ne_of_none q hp
  refine ⟨by rw [List.length_append, List.length_append, om.len]; rfl, ?_, fun i a gs hi hf => ?_⟩
  · rw [List.nodup_append]
    refine ⟨om.nd, by simp, fun a ha b hb => ?_⟩
    rw [List.mem_singleton] at hb
    subst hb
    exact out a ha
  · by_cases hl : i < A.length
    · rw [List.getElem?_append_left hl] at hi
      rw [List.getElem?_append_left (by rw [← om.len]; exact hl)] at hf
      obtain ⟨L', e1, e2, e3, e4⟩ := om.at_ i a gs hi hf
      exact ⟨L', by rw [upd_ne (out a (List.mem_of_getElem? hi))]; exact e1, e2, e3, e4⟩
    · have hi2 : i = A.length := by
        obtain ⟨h1, _⟩ := List.getElem?_eq_some_iff.mp hi
        rw [List.length_append] at h1
        simp at h1
        omega
      subst hi2
      rw [List.getElem?_append_right (Nat.le_refl _), Nat.sub_self] at hi
      have hf2 : (w ++ [fs])[w.length]? = some gs := by rw [← om.len]; exact hf
      rw [List.getElem?_append_right (Nat.le_refl _), Nat.sub_self] at hf2
      cases hi; cases hf2
      exact ⟨L, upd_same, h.free hp, r, nd⟩
theorem Step.setD {a : Addr} {L L' : DL} (h : Same F H) (e : H a = some (DctO a L)) (hF : F a = none) : Step A F H A F (upd H a (DctO a L')) := by
  refine ⟨⟨[], by simp⟩, .refl _, fun b u q => ?_, fun p o q hi => ?_, fun p φ q => ?_, fun p o q => rfl⟩
  · have : b ≠ a := fun z => by rw [z, hF] at q; cases q
    rw [upd_ne this]; exact h b u q
  · have : p ≠ a := fun z => by rw [z, e] at q; cases q; cases hi
    rw [upd_ne this]; exact q
  · by_cases z : p = a
    · subst z; exact ⟨_, upd_same⟩
    · exact ⟨φ, by rw [upd_ne z]; exact q⟩
theorem Omg.setD (om : Omg C A F H w) {i : Nat} {a : Addr} {L' : DL} {fs' : Fs} (ha : A[i]? = some a) (hF : F a = none) (hR : DcR F L' fs') (nd : (L'.map (·.2.1)).Nodup) : Omg C A F (upd H a (DctO a L')) (w.set i fs') := by
  refine ⟨by rw [List.length_set]; exact om.len, om.nd, fun j b gs hj hg => ?_⟩
  by_cases hij : i = j
  · subst hij
    rw [ha] at hj; cases hj
    obtain ⟨hl, _⟩ := List.getElem?_eq_some_iff.mp ha
    rw [List.getElem?_set_self (by rw [← om.len]; exact hl)] at hg
    cases hg
    exact ⟨L', upd_same, hF, hR, nd⟩
  · rw [List.getElem?_set_ne hij] at hg
    obtain ⟨L, e1, e2, e3, e4⟩ := om.at_ j b gs hj hg
    have : b ≠ a := fun z => by
      subst z
      obtain ⟨h1, q1⟩ := List.getElem?_eq_some_iff.mp ha
      obtain ⟨h2, q2⟩ := List.getElem?_eq_some_iff.mp hj
      have nd := List.pairwise_iff_getElem.mp om.nd
      rcases Nat.lt_or_gt_of_ne hij with z | z
      · exact nd i j h1 h2 z (q1.trans q2.symm)
      · exact nd j i h2 h1 z (q2.trans q1.symm)
    exact ⟨L, by rw [upd_ne this]; exact e1, e2, e3, e4⟩
theorem DAt.of {a : Addr} {L : DL} {fs : Fs} (s : Same F H) (e : H a = some (DctO a L)) (r : DcR F L fs) (nd : (L.map (·.2.1)).Nodup) : DAt H a L := ⟨e, fun x hx => Rp.mono s _ _ (r.rows x hx), nd⟩
end
section
variable {X : Cx} {G : Cg} {a b e k : Expr} {da db de dk : Ex} {pos : Pos}
theorem pd_dct {i j : Nat} {x : Str} {p2 p3 : Pos} (hu : X.A.units + 64 < cLine) (hN : X.N[i]? = some x) (hv : Vis X.env.scope x) (hd : (x == ("__debug__" : Str)) = false) (hcd : (x == ("__classdict__" : Str)) = false) :
    PE X (.Dict [some (.Name x p2)] [.Constant .none j p3] pos) (tD G (dDct i)) :=
  peI (pe_dct1 hu hN hv hd hcd) fun σ H Q ⟨A, F, r, w, x, w', rel, e, post⟩ => by
    unfold dDct at e
    split at e
    · rename_i d hr
      rw [Option.map_eq_some_iff] at e
      obtain ⟨rs, hrs, e⟩ := e
      cases e
      obtain ⟨k, rfl⟩ := rwsOf_one hrs
      obtain ⟨v, hσ, ro⟩ := rel.ro hr
      obtain ⟨b, rfl, rb⟩ := ro.row
      refine ⟨b, k, hσ, Rp.mono rel.fh _ _ rb, fun p hp => ?_⟩
      have st := Step.mkD (A := A) (L := [(b, k, none)]) rel.fh hp
      have om := rel.om.mkD (L := [(b, k, none)]) (fs := [kvE (dRow k) .none]) rel.fh hp (.cons ⟨.none, rfl, rb, .inl ⟨rfl, rfl⟩⟩ .nil) (by simp)
      refine post (.ref p) (A ++ [p]) F _ st om (.inr (.inl ⟨w.length, p, rfl, ?_, rfl⟩))
      rw [← rel.om.len, List.getElem?_append_right (Nat.le_refl _), Nat.sub_self]
      rfl
    · cases e
theorem nin_bool : ∀ c r w d w', dNinD da db c r w = some (.val d, w') → ∃ b, d = .bool b := fun c r w d w' h => by
  unfold dNinD at h
  split at h
  · cases h
  · cases h
  · split at h
    · cases h
    · cases h
    · split at h
      · cases h
      · split at h
        · cases h
        · rw [Option.map_eq_some_iff] at h
          obtain ⟨_, _, h⟩ := h
          cases h
          exact ⟨_, rfl⟩
theorem nin_k {σ : L2.St} {H : Hp} {Q : VK} (h : tD G (dNinD da db) σ H Q) : tO G da σ H fun x H1 => tO G db σ H1 fun y H2 => rNinD x y H2 Q := by
  obtain ⟨A, F, r, w, x, w', rel, e, post⟩ := h
  unfold dNinD at e
  cases h1 : da G.c r w with
  | none => rw [h1] at e; cases e
  | some q1 =>
    obtain ⟨x1, w1⟩ := q1
    rw [h1] at e
    cases x1 with
    | exc y => cases e; exact ⟨A, F, r, w, .exc y, _, rel, h1, post⟩
    | val dx =>
      refine ⟨A, F, r, w, .val dx, w1, rel, h1, fun v A1 F1 H1 s1 o1 r1 => ?_⟩
      simp only at e
      have rel1 := rel.step s1 o1
      cases h2 : db G.c r w1 with
      | none => rw [h2] at e; cases e
      | some q2 =>
        obtain ⟨x2, w2⟩ := q2
        rw [h2] at e
        cases x2 with
        | exc y => cases e; exact ⟨A1, F1, r, w1, .exc y, _, rel1, h2, fun cls dd A' F' H' s o q => post cls dd A' F' H' (s1.trans s) o q⟩
        | val dd =>
          refine ⟨A1, F1, r, w1, .val dd, w2, rel1, h2, fun v2 A2 F2 H2 s2 o2 r2 => ?_⟩
          simp only at e
          cases hi : isO' dd with
          | none => rw [hi] at e; cases e
          | some i =>
            rw [hi] at e
            simp only at e
            have := isO'_eq hi
            subst this
            obtain ⟨a, ha, rfl⟩ := r2.objD
            obtain ⟨fs, L, hw, hH, hF, hR, nd⟩ := o2.objD ha
            rw [hw] at e
            simp only at e
            rw [Option.map_eq_some_iff] at e
            obtain ⟨rs, hrs, e⟩ := e
            cases e
            obtain ⟨k, rfl⟩ := rwsOf_one hrs
            obtain ⟨b, rfl, rb⟩ := (r1.step s2).row
            refine ⟨b, a, k, L, rfl, rfl, Rp.mono s2.fh _ _ rb, DAt.of s2.fh hH hR nd, ?_⟩
            have ef : (atD fs (dRow k)).isSome = (fdD L k).isSome := by
              rcases hR.find k with ⟨z1, z2⟩ | ⟨e, dv, z1, z2, _⟩ <;> simp [z1, z2]
            rw [← ef]
            exact post (.bl _) A2 F2 H2 (s1.trans s2) o2 (.inl (.bl _))
theorem ptd_ninD (hu : X.A.units + 64 < cLine) (ha : PE X a (tO G da)) (hb : PE X b (tO G db)) (hm : behindInMarks .NotIn b = false) : PT X (.Compare a [.NotIn] [b] pos) (tT G (dNinD da db)) :=
  pt_bool nin_bool (fun σ H Q h => nin_k h) (pt_cmpR (op_ninD hu) ha hb hm)
theorem pd_getD (hu : X.A.units + 64 < cLine) (ha : PE X a (tO G da)) (hb : PE X b (tO G db)) (hs : PlainIx b) : PE X (.Subscript a b pos) (tD G (dGetD da db)) :=
  peI (pe_ix (ix_getD hu) ha hb hs) fun σ H Q ⟨A, F, r, w, x, w', rel, e, post⟩ => by
    unfold dGetD at e
    cases h1 : da G.c r w with
    | none => rw [h1] at e; cases e
    | some q1 =>
      obtain ⟨x1, w1⟩ := q1
      rw [h1] at e
      cases x1 with
      | exc y => cases e; exact ⟨A, F, r, w, .exc y, _, rel, h1, post⟩
      | val dd =>
        refine ⟨A, F, r, w, .val dd, w1, rel, h1, fun v A1 F1 H1 s1 o1 r1 => ?_⟩
        simp only at e
        have rel1 := rel.step s1 o1
        cases h2 : db G.c r w1 with
        | none => rw [h2] at e; cases e
        | some q2 =>
          obtain ⟨x2, w2⟩ := q2
          rw [h2] at e
          cases x2 with
          | exc y => cases e; exact ⟨A1, F1, r, w1, .exc y, _, rel1, h2, fun cls dd A' F' H' s o q => post cls dd A' F' H' (s1.trans s) o q⟩
          | val dx =>
            refine ⟨A1, F1, r, w1, .val dx, w2, rel1, h2, fun v2 A2 F2 H2 s2 o2 r2 => ?_⟩
            simp only at e
            cases hi : isO' dd with
            | none => rw [hi] at e; cases e
            | some i =>
              rw [hi] at e
              simp only at e
              have := isO'_eq hi
              subst this
              obtain ⟨a, ha, rfl⟩ := (r1.step s2).objD
              obtain ⟨fs, L, hw, hH, hF, hR, nd⟩ := o2.objD ha
              rw [hw] at e
              simp only at e
              rw [Option.bind_eq_some_iff] at e
              obtain ⟨rs, hrs, e⟩ := e
              rw [Option.map_eq_some_iff] at e
              obtain ⟨dv, hdv, e⟩ := e
              cases e
              obtain ⟨k, rfl⟩ := rwsOf_one hrs
              obtain ⟨b, rfl, rb⟩ := r2.row
              rcases hR.find k with ⟨z1, z2⟩ | ⟨en, dv', z1, z2, z3⟩
              · rw [z2] at hdv; cases hdv
              · rw [z2] at hdv; cases hdv
                exact ⟨a, b, k, L, en, rfl, rfl, Rp.mono s2.fh _ _ rb, DAt.of s2.fh hH hR nd, z1, post _ A2 F2 H2 (s1.trans s2) o2 (.inl z3)⟩
theorem psd_setD {i : Nat} {x : Str} {p2 p3 : Pos} (hu : X.A.units + 64 < cLine) (hN : X.N[i]? = some x) (hv : Vis X.env.scope x) (hd : (x == ("__debug__" : Str)) = false) (hcd : (x == ("__classdict__" : Str)) = false) (he : PE X e (tD G de)) (hk : PE X k (tO G dk))
    (ha : ∀ v, assign (.Subscript (.Name x p2) k p3) X.env v = (do
      let ov ← holding [v] (eval (.Name x p2) X.env)
      let iv ← holding [v, ov] (eval k X.env)
      standAt p3
      holding [v, ov, iv] (setItem ov iv v)
      release [v, ov, iv] []))
    (hs : swapsWithSole [.Subscript (.Name x p2) k p3] e pos.line X.env = pure false) (hw : swappedStores [.Subscript (.Name x p2) k p3] e X.env = pure none) (h1 : (assignEach [.Subscript (.Name x p2) k p3] X.env).map (·.2) = [assign (.Subscript (.Name x p2) k p3) X.env]) :
    PS X (.Assign [.Subscript (.Name x p2) k p3] e pos) (tS G (sSetD i dk de)) :=
  psI (ps_asg he (pg_sub (pe_var hN hv hd hcd) hk (set_dctN hu) ha) hs hw h1) fun Dd σ H ⟨A, F, r, w, x, w', rs, e, post⟩ => by
    unfold sSetD at e
    cases h1 : de G.c r w with
    | none => rw [h1] at e; cases e
    | some pr =>
      obtain ⟨x1, w1⟩ := pr
      rw [h1] at e
      refine tD_of rs h1 (fun d hd v A1 F1 H1 s1 rs1 rt => ?_) (fun y hy cls dd A' F' H' rs' xr => ?_)
      · subst hd
        simp only at e
        split at e
        · rename_i dd hr
          obtain ⟨o, hσ, ro⟩ := rs1.rel.ro hr
          cases h2 : dk G.c r w1 with
          | none => rw [h2] at e; cases e
          | some pr =>
            obtain ⟨x2, w2⟩ := pr
            rw [h2] at e
            refine ⟨o, hσ, tO_of rs1 h2 (fun d3 hd3 v2 A2 F2 H2 s2 rs2 rt2 => ?_) (fun y hy cls dd A' F' H' rs' xr => ?_)⟩
            · subst hd3
              simp only at e
              cases hi : isO' dd with
              | none => rw [hi] at e; cases e
              | some j =>
                rw [hi] at e
                simp only at e
                have := isO'_eq hi
                subst this
                obtain ⟨a, ha, rfl⟩ := (ro.step s2).objD
                obtain ⟨fs, L, hw, hH, hF, hR, nd⟩ := rs2.rel.om.objD ha
                rw [hw] at e
                simp only at e
                rw [Option.bind_eq_some_iff] at e
                obtain ⟨rws, hrws, e⟩ := e
                split at e
                · cases e
                · rename_i hc
                  cases e
                  rw [Bool.or_eq_true, decide_eq_true_eq, not_or] at hc
                  obtain ⟨kk, l, rfl, rfl⟩ := rwsOf_two hrws
                  obtain ⟨b, rfl, rb⟩ := rt2.row
                  obtain ⟨c, rfl, rc⟩ := (Ro.row (H := H2) (.inl (rt.step s2)))
                  have hn : fdD L kk = none := by
                    rcases hR.find kk with ⟨z1, _⟩ | ⟨en, dv', z1, z2, _⟩
                    · exact z1
                    · exact absurd (by rw [z2]; rfl) hc.1
                  have hl := hR.len
                  refine ⟨a, b, c, kk, L, rfl, rfl, rfl, Rp.mono s2.fh _ _ rb, DAt.of s2.fh hH hR nd, hn, by omega, ?_⟩
                  have nd' : ((L ++ [(b, kk, some c)]).map (·.2.1)).Nodup := by
                    rw [List.map_append, List.nodup_append]
                    refine ⟨nd, by simp, fun z hz y hy => ?_⟩
                    have hy : y = kk := by simpa using hy
                    subst hy
                    obtain ⟨en, hen, ez⟩ := List.mem_map.mp hz
                    intro zz
                    unfold fdD at hn
                    rw [List.find?_eq_none] at hn
                    exact hn en hen (decide_eq_true (ez.trans zz))
                  have st := Step.setD (A := A2) (L' := L ++ [(b, kk, some c)]) rs2.rel.fh hH hF
                  exact post σ A2 F2 _ (rs2.step st (rs2.rel.om.setD ha hF (hR.snoc ⟨dRow l, rfl, rb, .inr ⟨c, _, rfl, rfl, rc⟩⟩) nd')) (s1.ff.trans s2.ff)
            · subst hy; cases e
              exact post cls dd σ A' F' H' rs' xr
        · cases e
      · subst hy; cases e
        exact post cls dd σ A' F' H' rs' xr
theorem type_list_popK : typeOf (.builtin "list.pop") = pure (.type "method_descriptor") := by show builtinType _ = _; rw [builtinType_eq_fast]; kernel_rfl
theorem psd_pop0 {i j cj : Nat} {y x : Str} {p1 p2 p3 apos cpos : Pos} (hN : X.N.Nodup) (hi : X.N[i]? = some y) (hy : Loc X.env.scope y) (hf : X.fn y = true ∨ X.env.scope.names.lookup y = some .local) (hMi : G.M.contains i = false)
    (hj : X.N[j]? = some x) (hv : Vis X.env.scope x) (hd : (x == ("__debug__" : Str)) = false) (hcd : (x == ("__classdict__" : Str)) = false) (hM : G.M.contains j = true)
    (hst : starEach [.Constant (.int 0) cj p3] X.env = (false, eval (.Constant (.int 0) cj p3) X.env) :: starEach [] X.env) (hline : (apos.endLine == cpos.line) = true) (hs : swapsWith (.Call (.Attribute (.Name x p2) "pop" apos) [.Constant (.int 0) cj p3] [] cpos) (some (.Name y p1)) pos.line X.env = pure false)
    (hfew : ((backTo cpos (starEach [.Constant (.int 0) cj p3] X.env)).all (fun x => !x.1) && (backToKw cpos (keywordEach [] X.env)).all (fun x => x.1.isSome) && decide (([.Constant (.int 0) cj p3] : List Expr).length + ([] : List Keyword).length + (if ([] : List Keyword).isEmpty then 0 else 1) < 30)) = true) :
    PS X (.Assign [.Name y p1] (.Call (.Attribute (.Name x p2) "pop" apos) [.Constant (.int 0) cj p3] [] cpos) pos) (tS G (sPop0 i j)) :=
  psI (ps_set hN hi hy (pe_bm PySem.F.plainAttrs_list PySem.F.slot_list_pop type_list_popK mt_popAt (pe_var hj hv hd hcd) (pa_cons pe_int pa_nil hst) rfl hfew hline hst rfl) hs hf) fun Dd σ H ⟨A, F, r, w, x, w', rs, e, post⟩ => by
    unfold sPop0 at e
    split at e
    · rename_i d ds hr
      split at e
      · rename_i hij
        cases e
        obtain ⟨p, vs, hσ, hp, fp, rp⟩ := own_at rs hr hM
        cases rp with
        | @cons v vs' _ _ r0 rt =>
          refine ⟨.ref p, hσ, .inl ⟨rfl, _, .inl (.inl hp)⟩, ?_⟩
          refine ⟨p, v :: vs', 0, 0, v, rfl, rfl, hp, by decide, by decide, by simp [seqIndex?], rfl, ?_⟩
          have rs1 := rs.write hr hM hσ hp fp rt
          have hdn : ownd G.M i d = false := by unfold ownd; rw [hMi]; rfl
          exact post _ A F _ (rs1.set (.inl r0) hdn) (.refl _)
      · cases e
    · cases e
end
end Rx

set_option linter.all false
set_option maxRecDepth 100000
set_option autoImplicit false
namespace Rx
namespace Rx08
open PySem

def tl_1 : Sx :=
  (sSeq (sAsg 2 (dPrim .add (dCons (dC (.int 2)) (dCons (dPrim .mod (dCons (dPrim .ix (dCons (dVar 1) (dCons (dC (.int 0)) dNil))) (dCons (dC (.int 4)) dNil))) dNil))))
    (sSeq (sPar [3, 4] (dCons (dCall 32 (dCons (dVar 0) (dCons (dC (.int 2)) (dCons (dVar 2) dNil)))) (dCons (dCall 32 (dCons (dVar 0) (dCons (dC (.int 3)) (dCons (dVar 2) dNil)))) dNil)))
    (sSeq (sAsg 5 (dCall 59 (dCons (dVar 2) (dCons (dVar 3) (dCons (dVar 4) dNil)))))
    (sSeq (sAsgT (.tp [(.nm 6), (.nm 7), (.nm 8)]) (dPrim .tup (dCons (dPrim .lst (dCons (dVar 3) dNil)) (dCons (dPrim .lst (dCons (dVar 3) dNil)) (dCons (dC (.int 0)) dNil)))))
    (sSeq (sWhile 1000 (dPrim .notin (dCons (dVar 4) (dCons (dVar 7) dNil)))
    (sSeq (sAsg 9 (dPrim .lst dNil))
    (sSeq (sFor (iSeq (dVar 6)) (.nm 10)
    (sFor (iRng (dCons (dPrim .sub (dCons (dVar 2) (dCons (dC (.int 2)) dNil))) dNil)) (.nm 11)
    (sAsg 9 (dPrim .add (dCons (dVar 9) (dCons (dPrim .lst (dCons (dCall 54 (dCons (dVar 2) (dCons (dVar 10) (dCons (dVar 11) dNil)))) (dCons (dCall 55 (dCons (dVar 2) (dCons (dVar 10) (dCons (dVar 11) dNil)))) dNil))) dNil))))))
    (sSeq (sAsg 6 (dComp (iSeq (dSsu (dVar 9))) (.nm 10) (some (dPrim .notin (dCons (dVar 10) (dCons (dVar 7) dNil)))) (dVar 10) [10]))
    (sSeq (sAsg 7 (dPrim .add (dCons (dVar 7) (dCons (dVar 6) dNil))))
    (sAsg 8 (dPrim .add (dCons (dVar 8) (dCons (dC (.int 1)) dNil)))))))))
    (sSeq (sIf (dOr (dPrim .ne (dCons (dPrim .ix (dCons (dVar 5) (dCons (dC (.int 0)) dNil))) (dCons (dVar 3) dNil))) (dOr (dPrim .ne (dCons (dPrim .ix (dCons (dVar 5) (dCons (dPrim .neg (dCons (dC (.int 1)) dNil)) dNil))) (dCons (dVar 4) dNil))) (dPrim .ne (dCons (dPrim .len (dCons (dVar 5) dNil)) (dCons (dPrim .add (dCons (dVar 8) (dCons (dC (.int 1)) dNil))) dNil)))))
    (sRet (dC (.bool false)))
    sPass)
    (sSeq (sFor (iRng (dCons (dC (.int 1)) (dCons (dPrim .len (dCons (dVar 5) dNil)) dNil))) (.nm 12)
    (sSeq (sAsg 13 (dPrim .lst dNil))
    (sSeq (sFor (iRng (dCons (dPrim .sub (dCons (dVar 2) (dCons (dC (.int 2)) dNil))) dNil)) (.nm 11)
    (sAsg 13 (dPrim .add (dCons (dVar 13) (dCons (dPrim .lst (dCons (dCall 54 (dCons (dVar 2) (dCons (dPrim .ix (dCons (dVar 5) (dCons (dPrim .sub (dCons (dVar 12) (dCons (dC (.int 1)) dNil))) dNil))) (dCons (dVar 11) dNil)))) (dCons (dCall 55 (dCons (dVar 2) (dCons (dPrim .ix (dCons (dVar 5) (dCons (dPrim .sub (dCons (dVar 12) (dCons (dC (.int 1)) dNil))) dNil))) (dCons (dVar 11) dNil)))) dNil))) dNil)))))
    (sIf (dOr (dPrim .notin (dCons (dPrim .ix (dCons (dVar 5) (dCons (dVar 12) dNil))) (dCons (dVar 13) dNil))) (dNot (dCall 38 (dCons (dVar 2) (dCons (dPrim .ix (dCons (dVar 5) (dCons (dVar 12) dNil))) dNil)))))
    (sRet (dC (.bool false)))
    sPass))))
    (sSeq (sAsg 14 (dPrim .mul (dCons (dPrim .tup (dCons (dPrim .tup (dCons (dC (.int 0)) (dCons (dC (.int 1)) dNil))) dNil)) (dCons (dPrim .sub (dCons (dVar 2) (dCons (dC (.int 1)) dNil))) dNil))))
    (sRet (dOr (dPrim .eq (dCons (dVar 2) (dCons (dC (.int 2)) dNil))) (dAnd (dPrim .eq (dCons (dCall 60 (dCons (dVar 2) (dCons (dVar 3) (dCons (dVar 14) dNil)))) (dCons (dC (.str "not")) dNil))) (dPrim .eq (dCons (dCall 60 (dCons (dVar 2) (dCons (dVar 14) (dCons (dVar 3) dNil)))) (dCons (dC (.str "not")) dNil))))))))))))))
def tl_2 : Sx :=
  (sSeq (sPar [3, 4] (dCons (dCall 32 (dCons (dVar 0) (dCons (dC (.int 2)) (dCons (dVar 2) dNil)))) (dCons (dCall 32 (dCons (dVar 0) (dCons (dC (.int 3)) (dCons (dVar 2) dNil)))) dNil)))
    (sSeq (sAsg 5 (dCall 59 (dCons (dVar 2) (dCons (dVar 3) (dCons (dVar 4) dNil)))))
    (sSeq (sAsgT (.tp [(.nm 6), (.nm 7), (.nm 8)]) (dPrim .tup (dCons (dPrim .lst (dCons (dVar 3) dNil)) (dCons (dPrim .lst (dCons (dVar 3) dNil)) (dCons (dC (.int 0)) dNil)))))
    (sSeq (sWhile 1000 (dPrim .notin (dCons (dVar 4) (dCons (dVar 7) dNil)))
    (sSeq (sAsg 9 (dPrim .lst dNil))
    (sSeq (sFor (iSeq (dVar 6)) (.nm 10)
    (sFor (iRng (dCons (dPrim .sub (dCons (dVar 2) (dCons (dC (.int 2)) dNil))) dNil)) (.nm 11)
    (sAsg 9 (dPrim .add (dCons (dVar 9) (dCons (dPrim .lst (dCons (dCall 54 (dCons (dVar 2) (dCons (dVar 10) (dCons (dVar 11) dNil)))) (dCons (dCall 55 (dCons (dVar 2) (dCons (dVar 10) (dCons (dVar 11) dNil)))) dNil))) dNil))))))
    (sSeq (sAsg 6 (dComp (iSeq (dSsu (dVar 9))) (.nm 10) (some (dPrim .notin (dCons (dVar 10) (dCons (dVar 7) dNil)))) (dVar 10) [10]))
    (sSeq (sAsg 7 (dPrim .add (dCons (dVar 7) (dCons (dVar 6) dNil))))
    (sAsg 8 (dPrim .add (dCons (dVar 8) (dCons (dC (.int 1)) dNil)))))))))
    (sSeq (sIf (dOr (dPrim .ne (dCons (dPrim .ix (dCons (dVar 5) (dCons (dC (.int 0)) dNil))) (dCons (dVar 3) dNil))) (dOr (dPrim .ne (dCons (dPrim .ix (dCons (dVar 5) (dCons (dPrim .neg (dCons (dC (.int 1)) dNil)) dNil))) (dCons (dVar 4) dNil))) (dPrim .ne (dCons (dPrim .len (dCons (dVar 5) dNil)) (dCons (dPrim .add (dCons (dVar 8) (dCons (dC (.int 1)) dNil))) dNil)))))
    (sRet (dC (.bool false)))
    sPass)
    (sSeq (sFor (iRng (dCons (dC (.int 1)) (dCons (dPrim .len (dCons (dVar 5) dNil)) dNil))) (.nm 12)
    (sSeq (sAsg 13 (dPrim .lst dNil))
    (sSeq (sFor (iRng (dCons (dPrim .sub (dCons (dVar 2) (dCons (dC (.int 2)) dNil))) dNil)) (.nm 11)
    (sAsg 13 (dPrim .add (dCons (dVar 13) (dCons (dPrim .lst (dCons (dCall 54 (dCons (dVar 2) (dCons (dPrim .ix (dCons (dVar 5) (dCons (dPrim .sub (dCons (dVar 12) (dCons (dC (.int 1)) dNil))) dNil))) (dCons (dVar 11) dNil)))) (dCons (dCall 55 (dCons (dVar 2) (dCons (dPrim .ix (dCons (dVar 5) (dCons (dPrim .sub (dCons (dVar 12) (dCons (dC (.int 1)) dNil))) dNil))) (dCons (dVar 11) dNil)))) dNil))) dNil)))))
    (sIf (dOr (dPrim .notin (dCons (dPrim .ix (dCons (dVar 5) (dCons (dVar 12) dNil))) (dCons (dVar 13) dNil))) (dNot (dCall 38 (dCons (dVar 2) (dCons (dPrim .ix (dCons (dVar 5) (dCons (dVar 12) dNil))) dNil)))))
    (sRet (dC (.bool false)))
    sPass))))
    (sSeq (sAsg 14 (dPrim .mul (dCons (dPrim .tup (dCons (dPrim .tup (dCons (dC (.int 0)) (dCons (dC (.int 1)) dNil))) dNil)) (dCons (dPrim .sub (dCons (dVar 2) (dCons (dC (.int 1)) dNil))) dNil))))
    (sRet (dOr (dPrim .eq (dCons (dVar 2) (dCons (dC (.int 2)) dNil))) (dAnd (dPrim .eq (dCons (dCall 60 (dCons (dVar 2) (dCons (dVar 3) (dCons (dVar 14) dNil)))) (dCons (dC (.str "not")) dNil))) (dPrim .eq (dCons (dCall 60 (dCons (dVar 2) (dCons (dVar 14) (dCons (dVar 3) dNil)))) (dCons (dC (.str "not")) dNil)))))))))))))
def tl_3 : Sx :=
  (sSeq (sAsg 5 (dCall 59 (dCons (dVar 2) (dCons (dVar 3) (dCons (dVar 4) dNil)))))
    (sSeq (sAsgT (.tp [(.nm 6), (.nm 7), (.nm 8)]) (dPrim .tup (dCons (dPrim .lst (dCons (dVar 3) dNil)) (dCons (dPrim .lst (dCons (dVar 3) dNil)) (dCons (dC (.int 0)) dNil)))))
    (sSeq (sWhile 1000 (dPrim .notin (dCons (dVar 4) (dCons (dVar 7) dNil)))
    (sSeq (sAsg 9 (dPrim .lst dNil))
    (sSeq (sFor (iSeq (dVar 6)) (.nm 10)
    (sFor (iRng (dCons (dPrim .sub (dCons (dVar 2) (dCons (dC (.int 2)) dNil))) dNil)) (.nm 11)
    (sAsg 9 (dPrim .add (dCons (dVar 9) (dCons (dPrim .lst (dCons (dCall 54 (dCons (dVar 2) (dCons (dVar 10) (dCons (dVar 11) dNil)))) (dCons (dCall 55 (dCons (dVar 2) (dCons (dVar 10) (dCons (dVar 11) dNil)))) dNil))) dNil))))))
    (sSeq (sAsg 6 (dComp (iSeq (dSsu (dVar 9))) (.nm 10) (some (dPrim .notin (dCons (dVar 10) (dCons (dVar 7) dNil)))) (dVar 10) [10]))
    (sSeq (sAsg 7 (dPrim .add (dCons (dVar 7) (dCons (dVar 6) dNil))))
    (sAsg 8 (dPrim .add (dCons (dVar 8) (dCons (dC (.int 1)) dNil)))))))))
    (sSeq (sIf (dOr (dPrim .ne (dCons (dPrim .ix (dCons (dVar 5) (dCons (dC (.int 0)) dNil))) (dCons (dVar 3) dNil))) (dOr (dPrim .ne (dCons (dPrim .ix (dCons (dVar 5) (dCons (dPrim .neg (dCons (dC (.int 1)) dNil)) dNil))) (dCons (dVar 4) dNil))) (dPrim .ne (dCons (dPrim .len (dCons (dVar 5) dNil)) (dCons (dPrim .add (dCons (dVar 8) (dCons (dC (.int 1)) dNil))) dNil)))))
    (sRet (dC (.bool false)))
    sPass)
    (sSeq (sFor (iRng (dCons (dC (.int 1)) (dCons (dPrim .len (dCons (dVar 5) dNil)) dNil))) (.nm 12)
    (sSeq (sAsg 13 (dPrim .lst dNil))
    (sSeq (sFor (iRng (dCons (dPrim .sub (dCons (dVar 2) (dCons (dC (.int 2)) dNil))) dNil)) (.nm 11)
    (sAsg 13 (dPrim .add (dCons (dVar 13) (dCons (dPrim .lst (dCons (dCall 54 (dCons (dVar 2) (dCons (dPrim .ix (dCons (dVar 5) (dCons (dPrim .sub (dCons (dVar 12) (dCons (dC (.int 1)) dNil))) dNil))) (dCons (dVar 11) dNil)))) (dCons (dCall 55 (dCons (dVar 2) (dCons (dPrim .ix (dCons (dVar 5) (dCons (dPrim .sub (dCons (dVar 12) (dCons (dC (.int 1)) dNil))) dNil))) (dCons (dVar 11) dNil)))) dNil))) dNil)))))
    (sIf (dOr (dPrim .notin (dCons (dPrim .ix (dCons (dVar 5) (dCons (dVar 12) dNil))) (dCons (dVar 13) dNil))) (dNot (dCall 38 (dCons (dVar 2) (dCons (dPrim .ix (dCons (dVar 5) (dCons (dVar 12) dNil))) dNil)))))
    (sRet (dC (.bool false)))
    sPass))))
    (sSeq (sAsg 14 (dPrim .mul (dCons (dPrim .tup (dCons (dPrim .tup (dCons (dC (.int 0)) (dCons (dC (.int 1)) dNil))) dNil)) (dCons (dPrim .sub (dCons (dVar 2) (dCons (dC (.int 1)) dNil))) dNil))))
    (sRet (dOr (dPrim .eq (dCons (dVar 2) (dCons (dC (.int 2)) dNil))) (dAnd (dPrim .eq (dCons (dCall 60 (dCons (dVar 2) (dCons (dVar 3) (dCons (dVar 14) dNil)))) (dCons (dC (.str "not")) dNil))) (dPrim .eq (dCons (dCall 60 (dCons (dVar 2) (dCons (dVar 14) (dCons (dVar 3) dNil)))) (dCons (dC (.str "not")) dNil))))))))))))
def tl_4 : Sx :=
  (sSeq (sAsgT (.tp [(.nm 6), (.nm 7), (.nm 8)]) (dPrim .tup (dCons (dPrim .lst (dCons (dVar 3) dNil)) (dCons (dPrim .lst (dCons (dVar 3) dNil)) (dCons (dC (.int 0)) dNil)))))
    (sSeq (sWhile 1000 (dPrim .notin (dCons (dVar 4) (dCons (dVar 7) dNil)))
    (sSeq (sAsg 9 (dPrim .lst dNil))
    (sSeq (sFor (iSeq (dVar 6)) (.nm 10)
    (sFor (iRng (dCons (dPrim .sub (dCons (dVar 2) (dCons (dC (.int 2)) dNil))) dNil)) (.nm 11)
    (sAsg 9 (dPrim .add (dCons (dVar 9) (dCons (dPrim .lst (dCons (dCall 54 (dCons (dVar 2) (dCons (dVar 10) (dCons (dVar 11) dNil)))) (dCons (dCall 55 (dCons (dVar 2) (dCons (dVar 10) (dCons (dVar 11) dNil)))) dNil))) dNil))))))
    (sSeq (sAsg 6 (dComp (iSeq (dSsu (dVar 9))) (.nm 10) (some (dPrim .notin (dCons (dVar 10) (dCons (dVar 7) dNil)))) (dVar 10) [10]))
    (sSeq (sAsg 7 (dPrim .add (dCons (dVar 7) (dCons (dVar 6) dNil))))
    (sAsg 8 (dPrim .add (dCons (dVar 8) (dCons (dC (.int 1)) dNil)))))))))
    (sSeq (sIf (dOr (dPrim .ne (dCons (dPrim .ix (dCons (dVar 5) (dCons (dC (.int 0)) dNil))) (dCons (dVar 3) dNil))) (dOr (dPrim .ne (dCons (dPrim .ix (dCons (dVar 5) (dCons (dPrim .neg (dCons (dC (.int 1)) dNil)) dNil))) (dCons (dVar 4) dNil))) (dPrim .ne (dCons (dPrim .len (dCons (dVar 5) dNil)) (dCons (dPrim .add (dCons (dVar 8) (dCons (dC (.int 1)) dNil))) dNil)))))
    (sRet (dC (.bool false)))
    sPass)
    (sSeq (sFor (iRng (dCons (dC (.int 1)) (dCons (dPrim .len (dCons (dVar 5) dNil)) dNil))) (.nm 12)
    (sSeq (sAsg 13 (dPrim .lst dNil))
    (sSeq (sFor (iRng (dCons (dPrim .sub (dCons (dVar 2) (dCons (dC (.int 2)) dNil))) dNil)) (.nm 11)
    (sAsg 13 (dPrim .add (dCons (dVar 13) (dCons (dPrim .lst (dCons (dCall 54 (dCons (dVar 2) (dCons (dPrim .ix (dCons (dVar 5) (dCons (dPrim .sub (dCons (dVar 12) (dCons (dC (.int 1)) dNil))) dNil))) (dCons (dVar 11) dNil)))) (dCons (dCall 55 (dCons (dVar 2) (dCons (dPrim .ix (dCons (dVar 5) (dCons (dPrim .sub (dCons (dVar 12) (dCons (dC (.int 1)) dNil))) dNil))) (dCons (dVar 11) dNil)))) dNil))) dNil)))))
    (sIf (dOr (dPrim .notin (dCons (dPrim .ix (dCons (dVar 5) (dCons (dVar 12) dNil))) (dCons (dVar 13) dNil))) (dNot (dCall 38 (dCons (dVar 2) (dCons (dPrim .ix (dCons (dVar 5) (dCons (dVar 12) dNil))) dNil)))))
    (sRet (dC (.bool false)))
    sPass))))
    (sSeq (sAsg 14 (dPrim .mul (dCons (dPrim .tup (dCons (dPrim .tup (dCons (dC (.int 0)) (dCons (dC (.int 1)) dNil))) dNil)) (dCons (dPrim .sub (dCons (dVar 2) (dCons (dC (.int 1)) dNil))) dNil))))
    (sRet (dOr (dPrim .eq (dCons (dVar 2) (dCons (dC (.int 2)) dNil))) (dAnd (dPrim .eq (dCons (dCall 60 (dCons (dVar 2) (dCons (dVar 3) (dCons (dVar 14) dNil)))) (dCons (dC (.str "not")) dNil))) (dPrim .eq (dCons (dCall 60 (dCons (dVar 2) (dCons (dVar 14) (dCons (dVar 3) dNil)))) (dCons (dC (.str "not")) dNil)))))))))))
def tl_5 : Sx :=
  (sSeq (sWhile 1000 (dPrim .notin (dCons (dVar 4) (dCons (dVar 7) dNil)))
    (sSeq (sAsg 9 (dPrim .lst dNil))
    (sSeq (sFor (iSeq (dVar 6)) (.nm 10)
    (sFor (iRng (dCons (dPrim .sub (dCons (dVar 2) (dCons (dC (.int 2)) dNil))) dNil)) (.nm 11)
    (sAsg 9 (dPrim .add (dCons (dVar 9) (dCons (dPrim .lst (dCons (dCall 54 (dCons (dVar 2) (dCons (dVar 10) (dCons (dVar 11) dNil)))) (dCons (dCall 55 (dCons (dVar 2) (dCons (dVar 10) (dCons (dVar 11) dNil)))) dNil))) dNil))))))
    (sSeq (sAsg 6 (dComp (iSeq (dSsu (dVar 9))) (.nm 10) (some (dPrim .notin (dCons (dVar 10) (dCons (dVar 7) dNil)))) (dVar 10) [10]))
    (sSeq (sAsg 7 (dPrim .add (dCons (dVar 7) (dCons (dVar 6) dNil))))
    (sAsg 8 (dPrim .add (dCons (dVar 8) (dCons (dC (.int 1)) dNil)))))))))
    (sSeq (sIf (dOr (dPrim .ne (dCons (dPrim .ix (dCons (dVar 5) (dCons (dC (.int 0)) dNil))) (dCons (dVar 3) dNil))) (dOr (dPrim .ne (dCons (dPrim .ix (dCons (dVar 5) (dCons (dPrim .neg (dCons (dC (.int 1)) dNil)) dNil))) (dCons (dVar 4) dNil))) (dPrim .ne (dCons (dPrim .len (dCons (dVar 5) dNil)) (dCons (dPrim .add (dCons (dVar 8) (dCons (dC (.int 1)) dNil))) dNil)))))
    (sRet (dC (.bool false)))
    sPass)
    (sSeq (sFor (iRng (dCons (dC (.int 1)) (dCons (dPrim .len (dCons (dVar 5) dNil)) dNil))) (.nm 12)
    (sSeq (sAsg 13 (dPrim .lst dNil))
    (sSeq (sFor (iRng (dCons (dPrim .sub (dCons (dVar 2) (dCons (dC (.int 2)) dNil))) dNil)) (.nm 11)
    (sAsg 13 (dPrim .add (dCons (dVar 13) (dCons (dPrim .lst (dCons (dCall 54 (dCons (dVar 2) (dCons (dPrim .ix (dCons (dVar 5) (dCons (dPrim .sub (dCons (dVar 12) (dCons (dC (.int 1)) dNil))) dNil))) (dCons (dVar 11) dNil)))) (dCons (dCall 55 (dCons (dVar 2) (dCons (dPrim .ix (dCons (dVar 5) (dCons (dPrim .sub (dCons (dVar 12) (dCons (dC (.int 1)) dNil))) dNil))) (dCons (dVar 11) dNil)))) dNil))) dNil)))))
    (sIf (dOr (dPrim .notin (dCons (dPrim .ix (dCons (dVar 5) (dCons (dVar 12) dNil))) (dCons (dVar 13) dNil))) (dNot (dCall 38 (dCons (dVar 2) (dCons (dPrim .ix (dCons (dVar 5) (dCons (dVar 12) dNil))) dNil)))))
    (sRet (dC (.bool false)))
    sPass))))
    (sSeq (sAsg 14 (dPrim .mul (dCons (dPrim .tup (dCons (dPrim .tup (dCons (dC (.int 0)) (dCons (dC (.int 1)) dNil))) dNil)) (dCons (dPrim .sub (dCons (dVar 2) (dCons (dC (.int 1)) dNil))) dNil))))
    (sRet (dOr (dPrim .eq (dCons (dVar 2) (dCons (dC (.int 2)) dNil))) (dAnd (dPrim .eq (dCons (dCall 60 (dCons (dVar 2) (dCons (dVar 3) (dCons (dVar 14) dNil)))) (dCons (dC (.str "not")) dNil))) (dPrim .eq (dCons (dCall 60 (dCons (dVar 2) (dCons (dVar 14) (dCons (dVar 3) dNil)))) (dCons (dC (.str "not")) dNil))))))))))
def tl_6 : Sx :=
  (sSeq (sIf (dOr (dPrim .ne (dCons (dPrim .ix (dCons (dVar 5) (dCons (dC (.int 0)) dNil))) (dCons (dVar 3) dNil))) (dOr (dPrim .ne (dCons (dPrim .ix (dCons (dVar 5) (dCons (dPrim .neg (dCons (dC (.int 1)) dNil)) dNil))) (dCons (dVar 4) dNil))) (dPrim .ne (dCons (dPrim .len (dCons (dVar 5) dNil)) (dCons (dPrim .add (dCons (dVar 8) (dCons (dC (.int 1)) dNil))) dNil)))))
    (sRet (dC (.bool false)))
    sPass)
    (sSeq (sFor (iRng (dCons (dC (.int 1)) (dCons (dPrim .len (dCons (dVar 5) dNil)) dNil))) (.nm 12)
    (sSeq (sAsg 13 (dPrim .lst dNil))
    (sSeq (sFor (iRng (dCons (dPrim .sub (dCons (dVar 2) (dCons (dC (.int 2)) dNil))) dNil)) (.nm 11)
    (sAsg 13 (dPrim .add (dCons (dVar 13) (dCons (dPrim .lst (dCons (dCall 54 (dCons (dVar 2) (dCons (dPrim .ix (dCons (dVar 5) (dCons (dPrim .sub (dCons (dVar 12) (dCons (dC (.int 1)) dNil))) dNil))) (dCons (dVar 11) dNil)))) (dCons (dCall 55 (dCons (dVar 2) (dCons (dPrim .ix (dCons (dVar 5) (dCons (dPrim .sub (dCons (dVar 12) (dCons (dC (.int 1)) dNil))) dNil))) (dCons (dVar 11) dNil)))) dNil))) dNil)))))
    (sIf (dOr (dPrim .notin (dCons (dPrim .ix (dCons (dVar 5) (dCons (dVar 12) dNil))) (dCons (dVar 13) dNil))) (dNot (dCall 38 (dCons (dVar 2) (dCons (dPrim .ix (dCons (dVar 5) (dCons (dVar 12) dNil))) dNil)))))
    (sRet (dC (.bool false)))
    sPass))))
    (sSeq (sAsg 14 (dPrim .mul (dCons (dPrim .tup (dCons (dPrim .tup (dCons (dC (.int 0)) (dCons (dC (.int 1)) dNil))) dNil)) (dCons (dPrim .sub (dCons (dVar 2) (dCons (dC (.int 1)) dNil))) dNil))))
    (sRet (dOr (dPrim .eq (dCons (dVar 2) (dCons (dC (.int 2)) dNil))) (dAnd (dPrim .eq (dCons (dCall 60 (dCons (dVar 2) (dCons (dVar 3) (dCons (dVar 14) dNil)))) (dCons (dC (.str "not")) dNil))) (dPrim .eq (dCons (dCall 60 (dCons (dVar 2) (dCons (dVar 14) (dCons (dVar 3) dNil)))) (dCons (dC (.str "not")) dNil)))))))))
def tl_7 : Sx :=
  (sSeq (sFor (iRng (dCons (dC (.int 1)) (dCons (dPrim .len (dCons (dVar 5) dNil)) dNil))) (.nm 12)
    (sSeq (sAsg 13 (dPrim .lst dNil))
    (sSeq (sFor (iRng (dCons (dPrim .sub (dCons (dVar 2) (dCons (dC (.int 2)) dNil))) dNil)) (.nm 11)
    (sAsg 13 (dPrim .add (dCons (dVar 13) (dCons (dPrim .lst (dCons (dCall 54 (dCons (dVar 2) (dCons (dPrim .ix (dCons (dVar 5) (dCons (dPrim .sub (dCons (dVar 12) (dCons (dC (.int 1)) dNil))) dNil))) (dCons (dVar 11) dNil)))) (dCons (dCall 55 (dCons (dVar 2) (dCons (dPrim .ix (dCons (dVar 5) (dCons (dPrim .sub (dCons (dVar 12) (dCons (dC (.int 1)) dNil))) dNil))) (dCons (dVar 11) dNil)))) dNil))) dNil)))))
    (sIf (dOr (dPrim .notin (dCons (dPrim .ix (dCons (dVar 5) (dCons (dVar 12) dNil))) (dCons (dVar 13) dNil))) (dNot (dCall 38 (dCons (dVar 2) (dCons (dPrim .ix (dCons (dVar 5) (dCons (dVar 12) dNil))) dNil)))))
    (sRet (dC (.bool false)))
    sPass))))
    (sSeq (sAsg 14 (dPrim .mul (dCons (dPrim .tup (dCons (dPrim .tup (dCons (dC (.int 0)) (dCons (dC (.int 1)) dNil))) dNil)) (dCons (dPrim .sub (dCons (dVar 2) (dCons (dC (.int 1)) dNil))) dNil))))
    (sRet (dOr (dPrim .eq (dCons (dVar 2) (dCons (dC (.int 2)) dNil))) (dAnd (dPrim .eq (dCons (dCall 60 (dCons (dVar 2) (dCons (dVar 3) (dCons (dVar 14) dNil)))) (dCons (dC (.str "not")) dNil))) (dPrim .eq (dCons (dCall 60 (dCons (dVar 2) (dCons (dVar 14) (dCons (dVar 3) dNil)))) (dCons (dC (.str "not")) dNil))))))))
def tl_8 : Sx :=
  (sSeq (sAsg 14 (dPrim .mul (dCons (dPrim .tup (dCons (dPrim .tup (dCons (dC (.int 0)) (dCons (dC (.int 1)) dNil))) dNil)) (dCons (dPrim .sub (dCons (dVar 2) (dCons (dC (.int 1)) dNil))) dNil))))
    (sRet (dOr (dPrim .eq (dCons (dVar 2) (dCons (dC (.int 2)) dNil))) (dAnd (dPrim .eq (dCons (dCall 60 (dCons (dVar 2) (dCons (dVar 3) (dCons (dVar 14) dNil)))) (dCons (dC (.str "not")) dNil))) (dPrim .eq (dCons (dCall 60 (dCons (dVar 2) (dCons (dVar 14) (dCons (dVar 3) dNil)))) (dCons (dC (.str "not")) dNil)))))))
def tl_9 : Sx :=
  (sRet (dOr (dPrim .eq (dCons (dVar 2) (dCons (dC (.int 2)) dNil))) (dAnd (dPrim .eq (dCons (dCall 60 (dCons (dVar 2) (dCons (dVar 3) (dCons (dVar 14) dNil)))) (dCons (dC (.str "not")) dNil))) (dPrim .eq (dCons (dCall 60 (dCons (dVar 2) (dCons (dVar 14) (dCons (dVar 3) dNil)))) (dCons (dC (.str "not")) dNil))))))
def b_law : Sx :=
  (sSeq (sAsg 1 (dCall 29 (dCons (dVar 0) (dCons (dC (.int 4)) dNil))))
    (sSeq (sAsg 2 (dPrim .add (dCons (dC (.int 2)) (dCons (dPrim .mod (dCons (dPrim .ix (dCons (dVar 1) (dCons (dC (.int 0)) dNil))) (dCons (dC (.int 4)) dNil))) dNil))))
    (sSeq (sPar [3, 4] (dCons (dCall 32 (dCons (dVar 0) (dCons (dC (.int 2)) (dCons (dVar 2) dNil)))) (dCons (dCall 32 (dCons (dVar 0) (dCons (dC (.int 3)) (dCons (dVar 2) dNil)))) dNil)))
    (sSeq (sAsg 5 (dCall 59 (dCons (dVar 2) (dCons (dVar 3) (dCons (dVar 4) dNil)))))
    (sSeq (sAsgT (.tp [(.nm 6), (.nm 7), (.nm 8)]) (dPrim .tup (dCons (dPrim .lst (dCons (dVar 3) dNil)) (dCons (dPrim .lst (dCons (dVar 3) dNil)) (dCons (dC (.int 0)) dNil)))))
    (sSeq (sWhile 1000 (dPrim .notin (dCons (dVar 4) (dCons (dVar 7) dNil)))
    (sSeq (sAsg 9 (dPrim .lst dNil))
    (sSeq (sFor (iSeq (dVar 6)) (.nm 10)
    (sFor (iRng (dCons (dPrim .sub (dCons (dVar 2) (dCons (dC (.int 2)) dNil))) dNil)) (.nm 11)
    (sAsg 9 (dPrim .add (dCons (dVar 9) (dCons (dPrim .lst (dCons (dCall 54 (dCons (dVar 2) (dCons (dVar 10) (dCons (dVar 11) dNil)))) (dCons (dCall 55 (dCons (dVar 2) (dCons (dVar 10) (dCons (dVar 11) dNil)))) dNil))) dNil))))))
    (sSeq (sAsg 6 (dComp (iSeq (dSsu (dVar 9))) (.nm 10) (some (dPrim .notin (dCons (dVar 10) (dCons (dVar 7) dNil)))) (dVar 10) [10]))
    (sSeq (sAsg 7 (dPrim .add (dCons (dVar 7) (dCons (dVar 6) dNil))))
    (sAsg 8 (dPrim .add (dCons (dVar 8) (dCons (dC (.int 1)) dNil)))))))))
    (sSeq (sIf (dOr (dPrim .ne (dCons (dPrim .ix (dCons (dVar 5) (dCons (dC (.int 0)) dNil))) (dCons (dVar 3) dNil))) (dOr (dPrim .ne (dCons (dPrim .ix (dCons (dVar 5) (dCons (dPrim .neg (dCons (dC (.int 1)) dNil)) dNil))) (dCons (dVar 4) dNil))) (dPrim .ne (dCons (dPrim .len (dCons (dVar 5) dNil)) (dCons (dPrim .add (dCons (dVar 8) (dCons (dC (.int 1)) dNil))) dNil)))))
    (sRet (dC (.bool false)))
    sPass)
    (sSeq (sFor (iRng (dCons (dC (.int 1)) (dCons (dPrim .len (dCons (dVar 5) dNil)) dNil))) (.nm 12)
    (sSeq (sAsg 13 (dPrim .lst dNil))
    (sSeq (sFor (iRng (dCons (dPrim .sub (dCons (dVar 2) (dCons (dC (.int 2)) dNil))) dNil)) (.nm 11)
    (sAsg 13 (dPrim .add (dCons (dVar 13) (dCons (dPrim .lst (dCons (dCall 54 (dCons (dVar 2) (dCons (dPrim .ix (dCons (dVar 5) (dCons (dPrim .sub (dCons (dVar 12) (dCons (dC (.int 1)) dNil))) dNil))) (dCons (dVar 11) dNil)))) (dCons (dCall 55 (dCons (dVar 2) (dCons (dPrim .ix (dCons (dVar 5) (dCons (dPrim .sub (dCons (dVar 12) (dCons (dC (.int 1)) dNil))) dNil))) (dCons (dVar 11) dNil)))) dNil))) dNil)))))
    (sIf (dOr (dPrim .notin (dCons (dPrim .ix (dCons (dVar 5) (dCons (dVar 12) dNil))) (dCons (dVar 13) dNil))) (dNot (dCall 38 (dCons (dVar 2) (dCons (dPrim .ix (dCons (dVar 5) (dCons (dVar 12) dNil))) dNil)))))
    (sRet (dC (.bool false)))
    sPass))))
    (sSeq (sAsg 14 (dPrim .mul (dCons (dPrim .tup (dCons (dPrim .tup (dCons (dC (.int 0)) (dCons (dC (.int 1)) dNil))) dNil)) (dCons (dPrim .sub (dCons (dVar 2) (dCons (dC (.int 1)) dNil))) dNil))))
    (sRet (dOr (dPrim .eq (dCons (dVar 2) (dCons (dC (.int 2)) dNil))) (dAnd (dPrim .eq (dCons (dCall 60 (dCons (dVar 2) (dCons (dVar 3) (dCons (dVar 14) dNil)))) (dCons (dC (.str "not")) dNil))) (dPrim .eq (dCons (dCall 60 (dCons (dVar 2) (dCons (dVar 14) (dCons (dVar 3) dNil)))) (dCons (dC (.str "not")) dNil)))))))))))))))
def f_law : Fd := ⟨1, 15, b_law⟩
structure Has (T : Tb) : Prop where
  in_range : T 1 = some f_in_range
  check_size : T 2 = some f_check_size
  is_exchange : T 3 = some f_is_exchange
  are_exchanges : T 4 = some f_are_exchanges
  check_list : T 5 = some f_check_list
  moved : T 7 = some f_moved
  result_of : T 8 = some f_result_of
  is_round_list : T 10 = some f_is_round_list
  through : T 50 = some f_through
  check_number : T 51 = some f_check_number
  later_of : T 52 = some f_later_of
  earlier_of : T 53 = some f_earlier_of
  move_later : T 54 = some f_move_later
  move_earlier : T 55 = some f_move_earlier
  check_round : T 35 = some f_check_round
  road : T 59 = some f_road
  _law_cell : T 28 = some f__law_cell
  _law_row : T 29 = some f__law_row
  _law_to : T 31 = some f__law_to
  _law_result : T 37 = some f__law_result
  _law_is_round : T 38 = some f__law_is_round
  _law_round : T 32 = some f__law_round
  _law_road : T 60 = some f__law_road
  law : T 0 = some f_law
end Rx08
end Rx

set_option Elab.async false
set_option linter.all false
set_option maxRecDepth 100000
set_option maxHeartbeats 4000000
set_option autoImplicit false
namespace Rx
namespace Rx08
open PySem L2

def topS (i : Nat) : Stmt := PySem.Challenge.pw_roundexchanges_k08_whole_roads.main.body.getD i (.Pass ⟨0, 0, 0, 0⟩)
def xsL : List (Nat × Str) := [(0, "ExchangeError"), (2, "InvalidSize"), (3, "InvalidList"), (4, "InvalidPlace"), (7, "NotRound")]
abbrev n_in_range : List Str := ["value", "low", "high"]
abbrev s_in_range : Stmt := topS 8
def d_in_range : Df := ⟨s_in_range, "in_range", n_in_range, ["value", "low", "high"], [], b_in_range⟩
theorem sc_in_range : FnScope n_in_range ["value", "low", "high"] (defScope s_in_range) := ⟨rfl, rfl, rfl, by decide +kernel, rfl, by decide +kernel, by decide +kernel⟩
theorem w_in_range {P : Program} {w : World} {K : PySem.W.Frag} {mg : Str → Option Value} {base : Heap} {C : Addr} {ec : Nat → Option Value} {c : Cf} {k : Nat} (m_isinstance : mg "isinstance" = none) (m_int : mg "int" = none) (m_bool : mg "bool" = none) : BodyOk P w K mg base C ec c k d_in_range := by
  intro f cdv A outer s H E A0 F0 hr
  have nd : (n_in_range).Nodup := sc_in_range.nd
  show PSs (cxOf (L2.CX P w) P w K mg base n_in_range "in_range" (defScope s_in_range) f cdv A outer s H E) (defBody s_in_range) (tS ⟨K, C, [], fun cls dd _ H' => E cls dd H', c, ec, A0, F0, H⟩ b_in_range)
  exact (pssd_one (psd_ret (pd_and rfl (pd_isi .int rfl m_isinstance rfl m_int (po_var (i := 0) rfl (.inl rfl) (by decide) (by decide)) rfl) (pd_and rfl (pd_notE rfl (poOf (pd_isi .bool rfl m_isinstance rfl m_bool (po_var (i := 0) rfl (.inl rfl) (by decide) (by decide)) rfl))) (pd_one (pd_chain cs_le cs_le rfl (po_var (i := 1) rfl (.inl rfl) (by decide) (by decide)) (po_var (i := 0) rfl (.inl rfl) (by decide) (by decide)) (po_var (i := 2) rfl (.inl rfl) (by decide) (by decide)) rfl))))))
abbrev n_check_size : List Str := ["size"]
abbrev s_check_size : Stmt := topS 9
def d_check_size : Df := ⟨s_check_size, "check_size", n_check_size, ["size"], [], b_check_size⟩
theorem sc_check_size : FnScope n_check_size ["size"] (defScope s_check_size) := ⟨rfl, rfl, rfl, by decide +kernel, rfl, by decide +kernel, by decide +kernel⟩
theorem w_check_size {P : Program} {w : World} {K : PySem.W.Frag} {mg : Str → Option Value} {base : Heap} {C : Addr} {ec : Nat → Option Value} {c : Cf} {k : Nat} (c_in_range : Callee P w K mg base C ec c k "in_range" 1 3) (g_MAX_SIZE : ∃ t, mg "MAX_SIZE" = some (.int 6 t)) (xa : XAll K mg ec xsL) : BodyOk P w K mg base C ec c k d_check_size := by
  intro f cdv A outer s H E A0 F0 hr
  have nd : (n_check_size).Nodup := sc_check_size.nd
  show PSs (cxOf (L2.CX P w) P w K mg base n_check_size "check_size" (defScope s_check_size) f cdv A outer s H E) (defBody s_check_size) (tS ⟨K, C, [], fun cls dd _ H' => E cls dd H', c, ec, A0, F0, H⟩ b_check_size)
  exact (pssd_one (psd_if (ptd_not (pt_of rfl (poOf (pd_callE rfl (takes_of rfl rfl rfl rfl) c_in_range hr rfl (pad_cons (pd_var (i := 0) rfl (.inl rfl) (by decide) (by decide) rfl) (pad_cons pd_int (pad_cons (pd_globI rfl g_MAX_SIZE (by decide)) pad_nil rfl) rfl) rfl) rfl (by decide) rfl rfl (dCons_len (dCons_len (dCons_len dNil_len))))) (fun _ => rfl)))
    (pssd_one (psd_raiseE (xs := xsL) rfl (takes_of rfl rfl rfl rfl) xa (by decide) rfl (by decide)))
    pssd_nil))
abbrev n_is_exchange : List Str := ["size", "value"]
abbrev s_is_exchange : Stmt := topS 10
def d_is_exchange : Df := ⟨s_is_exchange, "is_exchange", n_is_exchange, ["size", "value"], [], b_is_exchange⟩
theorem sc_is_exchange : FnScope n_is_exchange ["size", "value"] (defScope s_is_exchange) := ⟨rfl, rfl, rfl, by decide +kernel, rfl, by decide +kernel, by decide +kernel⟩
theorem w_is_exchange {P : Program} {w : World} {K : PySem.W.Frag} {mg : Str → Option Value} {base : Heap} {C : Addr} {ec : Nat → Option Value} {c : Cf} {k : Nat} (m_isinstance : mg "isinstance" = none) (m_tuple : mg "tuple" = none) (m_len : mg "len" = none) (c_in_range : Callee P w K mg base C ec c k "in_range" 1 3) : BodyOk P w K mg base C ec c k d_is_exchange := by
  intro f cdv A outer s H E A0 F0 hr
  have nd : (n_is_exchange).Nodup := sc_is_exchange.nd
  show PSs (cxOf (L2.CX P w) P w K mg base n_is_exchange "is_exchange" (defScope s_is_exchange) f cdv A outer s H E) (defBody s_is_exchange) (tS ⟨K, C, [], fun cls dd _ H' => E cls dd H', c, ec, A0, F0, H⟩ b_is_exchange)
  exact (pssd_cons (psd_if (PW.pt (pwd_or (ptd_not (pt_of rfl (poOf (pd_isi .tuple rfl m_isinstance rfl m_tuple (po_var (i := 1) rfl (.inl rfl) (by decide) (by decide)) rfl)) (fun _ => rfl))) (pwd_or (ptd_cmp (cs_ne rfl hr.units) rfl (poOf (pd_len rfl rfl rfl m_len (po_var (i := 1) rfl (.inl rfl) (by decide) (by decide)))) (poOf pd_int) (nomark _)) (pwd_or1 (ptd_not (pt_of rfl (poOf (pd_callE rfl (takes_of rfl rfl rfl rfl) c_in_range hr rfl (pad_cons (pd_ix rfl (po_var (i := 1) rfl (.inl rfl) (by decide) (by decide)) (poOf pd_int) (fun _ _ => rfl)) (pad_cons pd_int (pad_cons (pd_sub (po_var (i := 0) rfl (.inl rfl) (by decide) (by decide)) (poOf pd_int)) pad_nil rfl) rfl) rfl) rfl (by decide) rfl rfl (dCons_len (dCons_len (dCons_len dNil_len))))) (fun _ => rfl)))))))
    (pssd_one (psd_ret pd_bl))
    pssd_nil)
    (pssd_one (psd_ret (pd_callE rfl (takes_of rfl rfl rfl rfl) c_in_range hr rfl (pad_cons (pd_ix rfl (po_var (i := 1) rfl (.inl rfl) (by decide) (by decide)) (poOf pd_int) (fun _ _ => rfl)) (pad_cons (pd_add (poOf (pd_ix rfl (po_var (i := 1) rfl (.inl rfl) (by decide) (by decide)) (poOf pd_int) (fun _ _ => rfl))) (poOf pd_int)) (pad_cons (pd_sub (po_var (i := 0) rfl (.inl rfl) (by decide) (by decide)) (poOf pd_int)) pad_nil rfl) rfl) rfl) rfl (by decide) rfl rfl (dCons_len (dCons_len (dCons_len dNil_len)))))))
abbrev n_are_exchanges : List Str := ["size", "value", "most", "one"]
abbrev s_are_exchanges : Stmt := topS 11
def d_are_exchanges : Df := ⟨s_are_exchanges, "are_exchanges", n_are_exchanges, ["size", "value", "most"], [], b_are_exchanges⟩
theorem sc_are_exchanges : FnScope n_are_exchanges ["size", "value", "most"] (defScope s_are_exchanges) := ⟨rfl, rfl, rfl, by decide +kernel, rfl, by decide +kernel, by decide +kernel⟩
theorem w_are_exchanges {P : Program} {w : World} {K : PySem.W.Frag} {mg : Str → Option Value} {base : Heap} {C : Addr} {ec : Nat → Option Value} {c : Cf} {k : Nat} (m_isinstance : mg "isinstance" = none) (m_tuple : mg "tuple" = none) (m_len : mg "len" = none) (c_is_exchange : Callee P w K mg base C ec c k "is_exchange" 3 2) : BodyOk P w K mg base C ec c k d_are_exchanges := by
  intro f cdv A outer s H E A0 F0 hr
  have nd : (n_are_exchanges).Nodup := sc_are_exchanges.nd
  show PSs (cxOf (L2.CX P w) P w K mg base n_are_exchanges "are_exchanges" (defScope s_are_exchanges) f cdv A outer s H E) (defBody s_are_exchanges) (tS ⟨K, C, [], fun cls dd _ H' => E cls dd H', c, ec, A0, F0, H⟩ b_are_exchanges)
  exact (pssd_cons (psd_if (PW.pt (pwd_or (ptd_not (pt_of rfl (poOf (pd_isi .tuple rfl m_isinstance rfl m_tuple (po_var (i := 1) rfl (.inl rfl) (by decide) (by decide)) rfl)) (fun _ => rfl))) (pwd_or1 (ptd_cmp cs_gt rfl (poOf (pd_len rfl rfl rfl m_len (po_var (i := 1) rfl (.inl rfl) (by decide) (by decide)))) (po_var (i := 2) rfl (.inl rfl) (by decide) (by decide)) (nomark _)))))
    (pssd_one (psd_ret pd_bl))
    pssd_nil)
    (pssd_one (psd_ret (pd_notE rfl (poOf (pd_comp (own := [("one", 3)]) rfl nd (pid_seqS (po_var (i := 1) rfl (.inl rfl) (by decide) (by decide))) (blkOk_by rfl) (fun _ _ _ _ _ => (pgd_name (i := 3) nd rfl (.inl rfl) (.inr rfl))) (fun _ _ _ _ _ => (pts_cond (.inr ⟨_, _, rfl, rfl, (ptd_not (pt_of rfl (poOf (pd_callE rfl takes_none5 c_is_exchange hr rfl (pad_cons (pd_var (i := 0) rfl (.inr (.inl rfl)) (by decide) (by decide) rfl) (pad_cons (pd_var (i := 3) rfl (.inl rfl) (by decide) (by decide) rfl) pad_nil rfl) rfl) rfl (by decide) rfl rfl (dCons_len (dCons_len dNil_len)))) (fun _ => rfl)))⟩))) (fun _ _ _ _ _ => (pd_var (i := 3) rfl (.inl rfl) (by decide) (by decide) rfl)) (fun _ => rfl) (inL rfl)))))))
abbrev n_check_list : List Str := ["size", "row"]
abbrev s_check_list : Stmt := topS 12
def d_check_list : Df := ⟨s_check_list, "check_list", n_check_list, ["size", "row"], [], b_check_list⟩
theorem sc_check_list : FnScope n_check_list ["size", "row"] (defScope s_check_list) := ⟨rfl, rfl, rfl, by decide +kernel, rfl, by decide +kernel, by decide +kernel⟩
theorem w_check_list {P : Program} {w : World} {K : PySem.W.Frag} {mg : Str → Option Value} {base : Heap} {C : Addr} {ec : Nat → Option Value} {c : Cf} {k : Nat} (c_check_size : Callee P w K mg base C ec c k "check_size" 2 1) (c_are_exchanges : Callee P w K mg base C ec c k "are_exchanges" 4 3) (m_len : mg "len" = none) (xa : XAll K mg ec xsL) : BodyOk P w K mg base C ec c k d_check_list := by
  intro f cdv A outer s H E A0 F0 hr
  have nd : (n_check_list).Nodup := sc_check_list.nd
  show PSs (cxOf (L2.CX P w) P w K mg base n_check_list "check_list" (defScope s_check_list) f cdv A outer s H E) (defBody s_check_list) (tS ⟨K, C, [], fun cls dd _ H' => E cls dd H', c, ec, A0, F0, H⟩ b_check_list)
  exact (pssd_cons (psd_expr (poOf (pd_callE rfl (takes_of rfl rfl rfl rfl) c_check_size hr rfl (pad_cons (pd_var (i := 0) rfl (.inl rfl) (by decide) (by decide) rfl) pad_nil rfl) rfl (by decide) rfl rfl (dCons_len dNil_len))) rfl)
    (pssd_one (psd_if (PW.pt (pwd_or (ptd_not (pt_of rfl (poOf (pd_callE rfl (takes_of rfl rfl rfl rfl) c_are_exchanges hr rfl (pad_cons (pd_var (i := 0) rfl (.inl rfl) (by decide) (by decide) rfl) (pad_cons (pd_var (i := 1) rfl (.inl rfl) (by decide) (by decide) rfl) (pad_cons (pd_sub (po_var (i := 0) rfl (.inl rfl) (by decide) (by decide)) (poOf pd_int)) pad_nil rfl) rfl) rfl) rfl (by decide) rfl rfl (dCons_len (dCons_len (dCons_len dNil_len))))) (fun _ => rfl))) (pwd_or1 (ptd_cmp (cs_ne rfl hr.units) rfl (poOf (pd_len rfl rfl rfl m_len (po_var (i := 1) rfl (.inl rfl) (by decide) (by decide)))) (poOf (pd_sub (po_var (i := 0) rfl (.inl rfl) (by decide) (by decide)) (poOf pd_int))) (nomark _)))))
    (pssd_one (psd_raiseE (xs := xsL) rfl (takes_of rfl rfl rfl rfl) xa (by decide) rfl (by decide)))
    pssd_nil)))
abbrev n_moved : List Str := ["one", "place"]
abbrev s_moved : Stmt := topS 13
def d_moved : Df := ⟨s_moved, "moved", n_moved, ["one", "place"], [], b_moved⟩
theorem sc_moved : FnScope n_moved ["one", "place"] (defScope s_moved) := ⟨rfl, rfl, rfl, by decide +kernel, rfl, by decide +kernel, by decide +kernel⟩
theorem w_moved {P : Program} {w : World} {K : PySem.W.Frag} {mg : Str → Option Value} {base : Heap} {C : Addr} {ec : Nat → Option Value} {c : Cf} {k : Nat}  : BodyOk P w K mg base C ec c k d_moved := by
  intro f cdv A outer s H E A0 F0 hr
  have nd : (n_moved).Nodup := sc_moved.nd
  show PSs (cxOf (L2.CX P w) P w K mg base n_moved "moved" (defScope s_moved) f cdv A outer s H E) (defBody s_moved) (tS ⟨K, C, [], fun cls dd _ H' => E cls dd H', c, ec, A0, F0, H⟩ b_moved)
  exact (pssd_cons (psd_if (ptd_cmp (cs_eq rfl hr.units) rfl (po_var (i := 1) rfl (.inl rfl) (by decide) (by decide)) (poOf (pd_ix rfl (po_var (i := 0) rfl (.inl rfl) (by decide) (by decide)) (poOf pd_int) (fun _ _ => rfl))) (nomark _))
    (pssd_one (psd_ret (pd_ix rfl (po_var (i := 0) rfl (.inl rfl) (by decide) (by decide)) (poOf pd_int) (fun _ _ => rfl))))
    pssd_nil)
    (pssd_one (psd_ret (pd_ite (ptd_cmp (cs_eq rfl hr.units) rfl (po_var (i := 1) rfl (.inl rfl) (by decide) (by decide)) (poOf (pd_ix rfl (po_var (i := 0) rfl (.inl rfl) (by decide) (by decide)) (poOf pd_int) (fun _ _ => rfl))) (nomark _)) (pd_ix rfl (po_var (i := 0) rfl (.inl rfl) (by decide) (by decide)) (poOf pd_int) (fun _ _ => rfl)) (pd_var (i := 1) rfl (.inl rfl) (by decide) (by decide) rfl)))))
abbrev n_result_of : List Str := ["size", "row", "result", "start", "place", "one"]
abbrev s_result_of : Stmt := topS 14
def d_result_of : Df := ⟨s_result_of, "result_of", n_result_of, ["size", "row"], [2], b_result_of⟩
theorem sc_result_of : FnScope n_result_of ["size", "row"] (defScope s_result_of) := ⟨rfl, rfl, rfl, by decide +kernel, rfl, by decide +kernel, by decide +kernel⟩
theorem w_result_of {P : Program} {w : World} {K : PySem.W.Frag} {mg : Str → Option Value} {base : Heap} {C : Addr} {ec : Nat → Option Value} {c : Cf} {k : Nat} (m_range : mg "range" = none) (c_moved : Callee P w K mg base C ec c k "moved" 7 2) (m_tuple : mg "tuple" = none) : BodyOk P w K mg base C ec c k d_result_of := by
  intro f cdv A outer s H E A0 F0 hr
  have nd : (n_result_of).Nodup := sc_result_of.nd
  show PSs (cxOf (L2.CX P w) P w K mg base n_result_of "result_of" (defScope s_result_of) f cdv A outer s H E) (defBody s_result_of) (tS ⟨K, C, [2], fun cls dd _ H' => E cls dd H', c, ec, A0, F0, H⟩ b_result_of)
  exact (pssd_cons (psd_setF (i := 2) nd rfl (.inl rfl) (pf_lst pad_nil) rfl (.inl rfl) rfl)
    (pssd_cons (psd_for (passes_of rfl) rfl (pid_rng1 rfl m_range (po_var (i := 0) rfl (.inl rfl) (by decide) (by decide)) rfl) (pgd_name (i := 3) nd rfl (.inl rfl) (.inl rfl)) (notM rfl)
    (pssd_cons (psd_set (i := 4) nd rfl (.inl rfl) (pd_var (i := 3) rfl (.inl rfl) (by decide) (by decide) rfl) rfl (.inl rfl) rfl)
    (pssd_cons (psd_for (passes_of rfl) rfl (pid_seqF (pd_var (i := 1) rfl (.inl rfl) (by decide) (by decide) rfl)) (pgd_name (i := 5) nd rfl (.inl rfl) (.inl rfl)) (notM rfl)
    (pssd_one (psd_set (i := 4) nd rfl (.inl rfl) (pd_callE rfl (takes_of rfl rfl rfl rfl) c_moved hr rfl (pad_cons (pd_var (i := 5) rfl (.inl rfl) (by decide) (by decide) rfl) (pad_cons (pd_var (i := 4) rfl (.inl rfl) (by decide) (by decide) rfl) pad_nil rfl) rfl) rfl (by decide) rfl rfl (dCons_len (dCons_len dNil_len))) rfl (.inl rfl) rfl)) (fun _ => rfl))
    (pssd_one (psd_appendE (i := 2) rfl (.inl rfl) (by decide) (by decide) rfl (pd_var (i := 4) rfl (.inl rfl) (by decide) (by decide) rfl) rfl rfl rfl rfl)))) (fun _ => rfl))
    (pssd_one (psd_ret (pd_tuplex rfl rfl m_tuple (po_var (i := 2) rfl (.inl rfl) (by decide) (by decide)))))))
abbrev n_is_round_list : List Str := ["size", "row"]
abbrev s_is_round_list : Stmt := topS 15
def d_is_round_list : Df := ⟨s_is_round_list, "is_round_list", n_is_round_list, ["size", "row"], [], b_is_round_list⟩
theorem sc_is_round_list : FnScope n_is_round_list ["size", "row"] (defScope s_is_round_list) := ⟨rfl, rfl, rfl, by decide +kernel, rfl, by decide +kernel, by decide +kernel⟩
theorem w_is_round_list {P : Program} {w : World} {K : PySem.W.Frag} {mg : Str → Option Value} {base : Heap} {C : Addr} {ec : Nat → Option Value} {c : Cf} {k : Nat} (c_result_of : Callee P w K mg base C ec c k "result_of" 8 2) (m_tuple : mg "tuple" = none) (m_range : mg "range" = none) : BodyOk P w K mg base C ec c k d_is_round_list := by
  intro f cdv A outer s H E A0 F0 hr
  have nd : (n_is_round_list).Nodup := sc_is_round_list.nd
  show PSs (cxOf (L2.CX P w) P w K mg base n_is_round_list "is_round_list" (defScope s_is_round_list) f cdv A outer s H E) (defBody s_is_round_list) (tS ⟨K, C, [], fun cls dd _ H' => E cls dd H', c, ec, A0, F0, H⟩ b_is_round_list)
  exact (pssd_one (psd_ret (pd_cmp (cs_eq rfl hr.units) (poOf (pd_callE rfl (takes_of rfl rfl rfl rfl) c_result_of hr rfl (pad_cons (pd_var (i := 0) rfl (.inl rfl) (by decide) (by decide) rfl) (pad_cons (pd_var (i := 1) rfl (.inl rfl) (by decide) (by decide) rfl) pad_nil rfl) rfl) rfl (by decide) rfl rfl (dCons_len (dCons_len dNil_len)))) (poOf (pd_add (poOf (pd_tupRng2 rfl rfl m_range rfl m_tuple (poOf pd_int) (po_var (i := 0) rfl (.inl rfl) (by decide) (by decide)) rfl rfl rfl)) (poOf (pd_tup (pad_cons pd_int pad_nil rfl))))) (nomark _))))
abbrev n_through : List Str := ["one", "other", "place"]
abbrev s_through : Stmt := topS 17
def d_through : Df := ⟨s_through, "through", n_through, ["one", "other"], [], b_through⟩
theorem sc_through : FnScope n_through ["one", "other"] (defScope s_through) := ⟨rfl, rfl, rfl, by decide +kernel, rfl, by decide +kernel, by decide +kernel⟩
theorem w_through {P : Program} {w : World} {K : PySem.W.Frag} {mg : Str → Option Value} {base : Heap} {C : Addr} {ec : Nat → Option Value} {c : Cf} {k : Nat} (m_tuple : mg "tuple" = none) (m_sorted : mg "sorted" = none) (c_moved : Callee P w K mg base C ec c k "moved" 7 2) : BodyOk P w K mg base C ec c k d_through := by
  intro f cdv A outer s H E A0 F0 hr
  have nd : (n_through).Nodup := sc_through.nd
  show PSs (cxOf (L2.CX P w) P w K mg base n_through "through" (defScope s_through) f cdv A outer s H E) (defBody s_through) (tS ⟨K, C, [], fun cls dd _ H' => E cls dd H', c, ec, A0, F0, H⟩ b_through)
  exact (pssd_one (psd_ret (pd_tuple rfl rfl m_tuple (poOf (pd_sorted rfl hr.units rfl m_sorted (poOf (pd_comp (own := [("place", 2)]) rfl nd (pid_seqS (po_var (i := 1) rfl (.inl rfl) (by decide) (by decide))) (blkOk_by rfl) (fun _ _ _ _ _ => (pgd_name (i := 2) nd rfl (.inl rfl) (.inr rfl))) (fun _ _ _ _ _ => (pts_cond (.inl ⟨rfl, rfl⟩))) (fun _ _ _ _ _ => (pd_callE rfl takes_none5 c_moved hr rfl (pad_cons (pd_var (i := 0) rfl (.inr (.inl rfl)) (by decide) (by decide) rfl) (pad_cons (pd_var (i := 2) rfl (.inl rfl) (by decide) (by decide) rfl) pad_nil rfl) rfl) rfl (by decide) rfl rfl (dCons_len (dCons_len dNil_len)))) (fun _ => rfl) (inL rfl))))))))
abbrev n_check_number : List Str := ["row", "number"]
abbrev s_check_number : Stmt := topS 18
def d_check_number : Df := ⟨s_check_number, "check_number", n_check_number, ["row", "number"], [], b_check_number⟩
theorem sc_check_number : FnScope n_check_number ["row", "number"] (defScope s_check_number) := ⟨rfl, rfl, rfl, by decide +kernel, rfl, by decide +kernel, by decide +kernel⟩
theorem w_check_number {P : Program} {w : World} {K : PySem.W.Frag} {mg : Str → Option Value} {base : Heap} {C : Addr} {ec : Nat → Option Value} {c : Cf} {k : Nat} (c_in_range : Callee P w K mg base C ec c k "in_range" 1 3) (m_len : mg "len" = none) (xa : XAll K mg ec xsL) : BodyOk P w K mg base C ec c k d_check_number := by
  intro f cdv A outer s H E A0 F0 hr
  have nd : (n_check_number).Nodup := sc_check_number.nd
  show PSs (cxOf (L2.CX P w) P w K mg base n_check_number "check_number" (defScope s_check_number) f cdv A outer s H E) (defBody s_check_number) (tS ⟨K, C, [], fun cls dd _ H' => E cls dd H', c, ec, A0, F0, H⟩ b_check_number)
  exact (pssd_one (psd_if (ptd_not (pt_of rfl (poOf (pd_callE rfl (takes_of rfl rfl rfl rfl) c_in_range hr rfl (pad_cons (pd_var (i := 1) rfl (.inl rfl) (by decide) (by decide) rfl) (pad_cons pd_int (pad_cons (pd_sub (poOf (pd_len rfl rfl rfl m_len (po_var (i := 0) rfl (.inl rfl) (by decide) (by decide)))) (poOf pd_int)) pad_nil rfl) rfl) rfl) rfl (by decide) rfl rfl (dCons_len (dCons_len (dCons_len dNil_len))))) (fun _ => rfl)))
    (pssd_one (psd_raiseE (xs := xsL) rfl (takes_of rfl rfl rfl rfl) xa (by decide) rfl (by decide)))
    pssd_nil))
abbrev n_later_of : List Str := ["row", "number", "one", "following"]
abbrev s_later_of : Stmt := topS 19
def d_later_of : Df := ⟨s_later_of, "later_of", n_later_of, ["row", "number"], [], b_later_of⟩
theorem sc_later_of : FnScope n_later_of ["row", "number"] (defScope s_later_of) := ⟨rfl, rfl, rfl, by decide +kernel, rfl, by decide +kernel, by decide +kernel⟩
theorem w_later_of {P : Program} {w : World} {K : PySem.W.Frag} {mg : Str → Option Value} {base : Heap} {C : Addr} {ec : Nat → Option Value} {c : Cf} {k : Nat} (c_through : Callee P w K mg base C ec c k "through" 50 2) : BodyOk P w K mg base C ec c k d_later_of := by
  intro f cdv A outer s H E A0 F0 hr
  have nd : (n_later_of).Nodup := sc_later_of.nd
  show PSs (cxOf (L2.CX P w) P w K mg base n_later_of "later_of" (defScope s_later_of) f cdv A outer s H E) (defBody s_later_of) (tS ⟨K, C, [], fun cls dd _ H' => E cls dd H', c, ec, A0, F0, H⟩ b_later_of)
  exact (pssd_cons (psd_par (i := 2) (j := 3) rfl nd rfl rfl (by decide) rfl rfl (pad_cons (pd_ix rfl (po_var (i := 0) rfl (.inl rfl) (by decide) (by decide)) (po_var (i := 1) rfl (.inl rfl) (by decide) (by decide)) (fun _ _ => rfl)) (pad_cons (pd_ix rfl (po_var (i := 0) rfl (.inl rfl) (by decide) (by decide)) (poOf (pd_add (po_var (i := 1) rfl (.inl rfl) (by decide) (by decide)) (poOf pd_int))) (fun _ _ => rfl)) pad_nil rfl) rfl) rfl rfl rfl)
    (pssd_one (psd_ret (pd_add (poOf (pd_add (poOf (pd_slH rfl (po_var (i := 0) rfl (.inl rfl) (by decide) (by decide)) (po_var (i := 1) rfl (.inl rfl) (by decide) (by decide)))) (poOf (pd_tup (pad_cons (pd_var (i := 3) rfl (.inl rfl) (by decide) (by decide) rfl) (pad_cons (pd_callE rfl (takes_of rfl rfl rfl rfl) c_through hr rfl (pad_cons (pd_var (i := 3) rfl (.inl rfl) (by decide) (by decide) rfl) (pad_cons (pd_var (i := 2) rfl (.inl rfl) (by decide) (by decide) rfl) pad_nil rfl) rfl) rfl (by decide) rfl rfl (dCons_len (dCons_len dNil_len))) pad_nil rfl) rfl))))) (poOf (pd_slL rfl (po_var (i := 0) rfl (.inl rfl) (by decide) (by decide)) (poOf (pd_add (po_var (i := 1) rfl (.inl rfl) (by decide) (by decide)) (poOf pd_int)))))))))
abbrev n_earlier_of : List Str := ["row", "number", "one", "following"]
abbrev s_earlier_of : Stmt := topS 20
def d_earlier_of : Df := ⟨s_earlier_of, "earlier_of", n_earlier_of, ["row", "number"], [], b_earlier_of⟩
theorem sc_earlier_of : FnScope n_earlier_of ["row", "number"] (defScope s_earlier_of) := ⟨rfl, rfl, rfl, by decide +kernel, rfl, by decide +kernel, by decide +kernel⟩
theorem w_earlier_of {P : Program} {w : World} {K : PySem.W.Frag} {mg : Str → Option Value} {base : Heap} {C : Addr} {ec : Nat → Option Value} {c : Cf} {k : Nat} (c_through : Callee P w K mg base C ec c k "through" 50 2) : BodyOk P w K mg base C ec c k d_earlier_of := by
  intro f cdv A outer s H E A0 F0 hr
  have nd : (n_earlier_of).Nodup := sc_earlier_of.nd
  show PSs (cxOf (L2.CX P w) P w K mg base n_earlier_of "earlier_of" (defScope s_earlier_of) f cdv A outer s H E) (defBody s_earlier_of) (tS ⟨K, C, [], fun cls dd _ H' => E cls dd H', c, ec, A0, F0, H⟩ b_earlier_of)
  exact (pssd_cons (psd_par (i := 2) (j := 3) rfl nd rfl rfl (by decide) rfl rfl (pad_cons (pd_ix rfl (po_var (i := 0) rfl (.inl rfl) (by decide) (by decide)) (po_var (i := 1) rfl (.inl rfl) (by decide) (by decide)) (fun _ _ => rfl)) (pad_cons (pd_ix rfl (po_var (i := 0) rfl (.inl rfl) (by decide) (by decide)) (poOf (pd_add (po_var (i := 1) rfl (.inl rfl) (by decide) (by decide)) (poOf pd_int))) (fun _ _ => rfl)) pad_nil rfl) rfl) rfl rfl rfl)
    (pssd_one (psd_ret (pd_add (poOf (pd_add (poOf (pd_slH rfl (po_var (i := 0) rfl (.inl rfl) (by decide) (by decide)) (po_var (i := 1) rfl (.inl rfl) (by decide) (by decide)))) (poOf (pd_tup (pad_cons (pd_callE rfl (takes_of rfl rfl rfl rfl) c_through hr rfl (pad_cons (pd_var (i := 2) rfl (.inl rfl) (by decide) (by decide) rfl) (pad_cons (pd_var (i := 3) rfl (.inl rfl) (by decide) (by decide) rfl) pad_nil rfl) rfl) rfl (by decide) rfl rfl (dCons_len (dCons_len dNil_len))) (pad_cons (pd_var (i := 2) rfl (.inl rfl) (by decide) (by decide) rfl) pad_nil rfl) rfl))))) (poOf (pd_slL rfl (po_var (i := 0) rfl (.inl rfl) (by decide) (by decide)) (poOf (pd_add (po_var (i := 1) rfl (.inl rfl) (by decide) (by decide)) (poOf pd_int)))))))))
abbrev n_move_later : List Str := ["size", "row", "number"]
abbrev s_move_later : Stmt := topS 21
def d_move_later : Df := ⟨s_move_later, "move_later", n_move_later, ["size", "row", "number"], [], b_move_later⟩
theorem sc_move_later : FnScope n_move_later ["size", "row", "number"] (defScope s_move_later) := ⟨rfl, rfl, rfl, by decide +kernel, rfl, by decide +kernel, by decide +kernel⟩
theorem w_move_later {P : Program} {w : World} {K : PySem.W.Frag} {mg : Str → Option Value} {base : Heap} {C : Addr} {ec : Nat → Option Value} {c : Cf} {k : Nat} (c_check_list : Callee P w K mg base C ec c k "check_list" 5 2) (c_check_number : Callee P w K mg base C ec c k "check_number" 51 2) (c_later_of : Callee P w K mg base C ec c k "later_of" 52 2) : BodyOk P w K mg base C ec c k d_move_later := by
  intro f cdv A outer s H E A0 F0 hr
  have nd : (n_move_later).Nodup := sc_move_later.nd
  show PSs (cxOf (L2.CX P w) P w K mg base n_move_later "move_later" (defScope s_move_later) f cdv A outer s H E) (defBody s_move_later) (tS ⟨K, C, [], fun cls dd _ H' => E cls dd H', c, ec, A0, F0, H⟩ b_move_later)
  exact (pssd_cons (psd_expr (poOf (pd_callE rfl (takes_of rfl rfl rfl rfl) c_check_list hr rfl (pad_cons (pd_var (i := 0) rfl (.inl rfl) (by decide) (by decide) rfl) (pad_cons (pd_var (i := 1) rfl (.inl rfl) (by decide) (by decide) rfl) pad_nil rfl) rfl) rfl (by decide) rfl rfl (dCons_len (dCons_len dNil_len)))) rfl)
    (pssd_cons (psd_expr (poOf (pd_callE rfl (takes_of rfl rfl rfl rfl) c_check_number hr rfl (pad_cons (pd_var (i := 1) rfl (.inl rfl) (by decide) (by decide) rfl) (pad_cons (pd_var (i := 2) rfl (.inl rfl) (by decide) (by decide) rfl) pad_nil rfl) rfl) rfl (by decide) rfl rfl (dCons_len (dCons_len dNil_len)))) rfl)
    (pssd_one (psd_ret (pd_callE rfl (takes_of rfl rfl rfl rfl) c_later_of hr rfl (pad_cons (pd_var (i := 1) rfl (.inl rfl) (by decide) (by decide) rfl) (pad_cons (pd_var (i := 2) rfl (.inl rfl) (by decide) (by decide) rfl) pad_nil rfl) rfl) rfl (by decide) rfl rfl (dCons_len (dCons_len dNil_len)))))))
abbrev n_move_earlier : List Str := ["size", "row", "number"]
abbrev s_move_earlier : Stmt := topS 22
def d_move_earlier : Df := ⟨s_move_earlier, "move_earlier", n_move_earlier, ["size", "row", "number"], [], b_move_earlier⟩
theorem sc_move_earlier : FnScope n_move_earlier ["size", "row", "number"] (defScope s_move_earlier) := ⟨rfl, rfl, rfl, by decide +kernel, rfl, by decide +kernel, by decide +kernel⟩
theorem w_move_earlier {P : Program} {w : World} {K : PySem.W.Frag} {mg : Str → Option Value} {base : Heap} {C : Addr} {ec : Nat → Option Value} {c : Cf} {k : Nat} (c_check_list : Callee P w K mg base C ec c k "check_list" 5 2) (c_check_number : Callee P w K mg base C ec c k "check_number" 51 2) (c_earlier_of : Callee P w K mg base C ec c k "earlier_of" 53 2) : BodyOk P w K mg base C ec c k d_move_earlier := by
  intro f cdv A outer s H E A0 F0 hr
  have nd : (n_move_earlier).Nodup := sc_move_earlier.nd
  show PSs (cxOf (L2.CX P w) P w K mg base n_move_earlier "move_earlier" (defScope s_move_earlier) f cdv A outer s H E) (defBody s_move_earlier) (tS ⟨K, C, [], fun cls dd _ H' => E cls dd H', c, ec, A0, F0, H⟩ b_move_earlier)
  exact (pssd_cons (psd_expr (poOf (pd_callE rfl (takes_of rfl rfl rfl rfl) c_check_list hr rfl (pad_cons (pd_var (i := 0) rfl (.inl rfl) (by decide) (by decide) rfl) (pad_cons (pd_var (i := 1) rfl (.inl rfl) (by decide) (by decide) rfl) pad_nil rfl) rfl) rfl (by decide) rfl rfl (dCons_len (dCons_len dNil_len)))) rfl)
    (pssd_cons (psd_expr (poOf (pd_callE rfl (takes_of rfl rfl rfl rfl) c_check_number hr rfl (pad_cons (pd_var (i := 1) rfl (.inl rfl) (by decide) (by decide) rfl) (pad_cons (pd_var (i := 2) rfl (.inl rfl) (by decide) (by decide) rfl) pad_nil rfl) rfl) rfl (by decide) rfl rfl (dCons_len (dCons_len dNil_len)))) rfl)
    (pssd_one (psd_ret (pd_callE rfl (takes_of rfl rfl rfl rfl) c_earlier_of hr rfl (pad_cons (pd_var (i := 1) rfl (.inl rfl) (by decide) (by decide) rfl) (pad_cons (pd_var (i := 2) rfl (.inl rfl) (by decide) (by decide) rfl) pad_nil rfl) rfl) rfl (by decide) rfl rfl (dCons_len (dCons_len dNil_len)))))))
abbrev n_check_round : List Str := ["size", "row"]
abbrev s_check_round : Stmt := topS 23
def d_check_round : Df := ⟨s_check_round, "check_round", n_check_round, ["size", "row"], [], b_check_round⟩
theorem sc_check_round : FnScope n_check_round ["size", "row"] (defScope s_check_round) := ⟨rfl, rfl, rfl, by decide +kernel, rfl, by decide +kernel, by decide +kernel⟩
theorem w_check_round {P : Program} {w : World} {K : PySem.W.Frag} {mg : Str → Option Value} {base : Heap} {C : Addr} {ec : Nat → Option Value} {c : Cf} {k : Nat} (c_check_list : Callee P w K mg base C ec c k "check_list" 5 2) (c_is_round_list : Callee P w K mg base C ec c k "is_round_list" 10 2) (xa : XAll K mg ec xsL) : BodyOk P w K mg base C ec c k d_check_round := by
  intro f cdv A outer s H E A0 F0 hr
  have nd : (n_check_round).Nodup := sc_check_round.nd
  show PSs (cxOf (L2.CX P w) P w K mg base n_check_round "check_round" (defScope s_check_round) f cdv A outer s H E) (defBody s_check_round) (tS ⟨K, C, [], fun cls dd _ H' => E cls dd H', c, ec, A0, F0, H⟩ b_check_round)
  exact (pssd_cons (psd_expr (poOf (pd_callE rfl (takes_of rfl rfl rfl rfl) c_check_list hr rfl (pad_cons (pd_var (i := 0) rfl (.inl rfl) (by decide) (by decide) rfl) (pad_cons (pd_var (i := 1) rfl (.inl rfl) (by decide) (by decide) rfl) pad_nil rfl) rfl) rfl (by decide) rfl rfl (dCons_len (dCons_len dNil_len)))) rfl)
    (pssd_one (psd_if (ptd_not (pt_of rfl (poOf (pd_callE rfl (takes_of rfl rfl rfl rfl) c_is_round_list hr rfl (pad_cons (pd_var (i := 0) rfl (.inl rfl) (by decide) (by decide) rfl) (pad_cons (pd_var (i := 1) rfl (.inl rfl) (by decide) (by decide) rfl) pad_nil rfl) rfl) rfl (by decide) rfl rfl (dCons_len (dCons_len dNil_len)))) (fun _ => rfl)))
    (pssd_one (psd_raiseE (xs := xsL) rfl (takes_of rfl rfl rfl rfl) xa (by decide) rfl (by decide)))
    pssd_nil)))
abbrev n_road : List Str := ["size", "row", "other", "before", "queue", "last", "number", "more", "result"]
abbrev s_road : Stmt := topS 24
def d_road : Df := ⟨s_road, "road", n_road, ["size", "row", "other"], [4, 8], b_road⟩
theorem sc_road : FnScope n_road ["size", "row", "other"] (defScope s_road) := ⟨rfl, rfl, rfl, by decide +kernel, rfl, by decide +kernel, by decide +kernel⟩
theorem w_road {P : Program} {w : World} {K : PySem.W.Frag} {mg : Str → Option Value} {base : Heap} {C : Addr} {ec : Nat → Option Value} {c : Cf} {k : Nat} (c_check_round : Callee P w K mg base C ec c k "check_round" 35 2) (m_range : mg "range" = none) (c_later_of : Callee P w K mg base C ec c k "later_of" 52 2) (c_earlier_of : Callee P w K mg base C ec c k "earlier_of" 53 2) : BodyOk P w K mg base C ec c k d_road := by
  intro f cdv A outer s H E A0 F0 hr
  have nd : (n_road).Nodup := sc_road.nd
  show PSs (cxOf (L2.CX P w) P w K mg base n_road "road" (defScope s_road) f cdv A outer s H E) (defBody s_road) (tS ⟨K, C, [4, 8], fun cls dd _ H' => E cls dd H', c, ec, A0, F0, H⟩ b_road)
  exact (pssd_cons (psd_expr (poOf (pd_callE rfl (takes_of rfl rfl rfl rfl) c_check_round hr rfl (pad_cons (pd_var (i := 0) rfl (.inl rfl) (by decide) (by decide) rfl) (pad_cons (pd_var (i := 1) rfl (.inl rfl) (by decide) (by decide) rfl) pad_nil rfl) rfl) rfl (by decide) rfl rfl (dCons_len (dCons_len dNil_len)))) rfl)
    (pssd_cons (psd_expr (poOf (pd_callE rfl (takes_of rfl rfl rfl rfl) c_check_round hr rfl (pad_cons (pd_var (i := 0) rfl (.inl rfl) (by decide) (by decide) rfl) (pad_cons (pd_var (i := 2) rfl (.inl rfl) (by decide) (by decide) rfl) pad_nil rfl) rfl) rfl (by decide) rfl rfl (dCons_len (dCons_len dNil_len)))) rfl)
    (pssd_cons (psd_set (i := 3) nd rfl (.inl rfl) (pd_dct (i := 1) hr.units rfl (.inl rfl) (by decide) (by decide)) rfl (.inl rfl) rfl)
    (pssd_cons (psd_setF (i := 4) nd rfl (.inl rfl) (pf_lst (pad_cons (pd_var (i := 1) rfl (.inl rfl) (by decide) (by decide) rfl) pad_nil rfl)) rfl (.inl rfl) rfl)
    (pssd_cons (psd_while (n := 1000) (passes_of rfl) (ptd_ninD hr.units (po_var (i := 2) rfl (.inl rfl) (by decide) (by decide)) (po_var (i := 3) rfl (.inl rfl) (by decide) (by decide)) rfl)
    (pssd_cons (psd_pop0 (i := 5) (j := 4) nd rfl (.inl rfl) (.inl rfl) rfl rfl (.inl rfl) (by decide) (by decide) rfl rfl rfl rfl rfl)
    (pssd_one (psd_for (passes_of rfl) rfl (pid_rng1 rfl m_range (poOf (pd_sub (po_var (i := 0) rfl (.inl rfl) (by decide) (by decide)) (poOf pd_int))) rfl) (pgd_name (i := 6) nd rfl (.inl rfl) (.inl rfl)) (notM rfl)
    (pssd_one (psd_for (passes_of rfl) rfl (pid_seqF (pd_tup (pad_cons (pd_callE rfl (takes_of rfl rfl rfl rfl) c_later_of hr rfl (pad_cons (pd_var (i := 5) rfl (.inl rfl) (by decide) (by decide) rfl) (pad_cons (pd_var (i := 6) rfl (.inl rfl) (by decide) (by decide) rfl) pad_nil rfl) rfl) rfl (by decide) rfl rfl (dCons_len (dCons_len dNil_len))) (pad_cons (pd_callE rfl (takes_of rfl rfl rfl rfl) c_earlier_of hr rfl (pad_cons (pd_var (i := 5) rfl (.inl rfl) (by decide) (by decide) rfl) (pad_cons (pd_var (i := 6) rfl (.inl rfl) (by decide) (by decide) rfl) pad_nil rfl) rfl) rfl (by decide) rfl rfl (dCons_len (dCons_len dNil_len))) pad_nil rfl) rfl))) (pgd_name (i := 7) nd rfl (.inl rfl) (.inl rfl)) (notM rfl)
    (pssd_one (psd_if (ptd_ninD hr.units (po_var (i := 7) rfl (.inl rfl) (by decide) (by decide)) (po_var (i := 3) rfl (.inl rfl) (by decide) (by decide)) rfl)
    (pssd_cons (psd_setD (i := 3) hr.units rfl (.inl rfl) (by decide) (by decide) (pd_var (i := 5) rfl (.inl rfl) (by decide) (by decide) rfl) (po_var (i := 7) rfl (.inl rfl) (by decide) (by decide)) (fun _ => rfl) rfl rfl rfl)
    (pssd_one (psd_appendE (i := 4) rfl (.inl rfl) (by decide) (by decide) rfl (pd_var (i := 7) rfl (.inl rfl) (by decide) (by decide) rfl) rfl rfl rfl rfl)))
    pssd_nil)) (fun _ => rfl))) (fun _ => rfl)))))
    (pssd_cons (psd_setF (i := 8) nd rfl (.inl rfl) (pf_lst (pad_cons (pd_var (i := 2) rfl (.inl rfl) (by decide) (by decide) rfl) pad_nil rfl)) rfl (.inl rfl) rfl)
    (pssd_cons (psd_while (n := 1000) (passes_of rfl) (ptd_notN (poOf (pd_getD hr.units (po_var (i := 3) rfl (.inl rfl) (by decide) (by decide)) (poOf (pd_ix rfl (po_var (i := 8) rfl (.inl rfl) (by decide) (by decide)) (poOf (pd_neg (poOf pd_int))) (fun _ _ => rfl))) (fun _ _ => rfl))))
    (pssd_one (psd_appendE (i := 8) rfl (.inl rfl) (by decide) (by decide) rfl (pd_getD hr.units (po_var (i := 3) rfl (.inl rfl) (by decide) (by decide)) (poOf (pd_ix rfl (po_var (i := 8) rfl (.inl rfl) (by decide) (by decide)) (poOf (pd_neg (poOf pd_int))) (fun _ _ => rfl))) (fun _ _ => rfl)) rfl rfl rfl rfl)))
    (pssd_one (psd_ret (pd_rev rfl (po_var (i := 8) rfl (.inl rfl) (by decide) (by decide))))))))))))
abbrev n__law_cell : List Str := ["script", "k"]
abbrev s__law_cell : Stmt := topS 26
def d__law_cell : Df := ⟨s__law_cell, "_law_cell", n__law_cell, ["script", "k"], [], b__law_cell⟩
theorem sc__law_cell : FnScope n__law_cell ["script", "k"] (defScope s__law_cell) := ⟨rfl, rfl, rfl, by decide +kernel, rfl, by decide +kernel, by decide +kernel⟩
theorem w__law_cell {P : Program} {w : World} {K : PySem.W.Frag} {mg : Str → Option Value} {base : Heap} {C : Addr} {ec : Nat → Option Value} {c : Cf} {k : Nat} (m_len : mg "len" = none) : BodyOk P w K mg base C ec c k d__law_cell := by
  intro f cdv A outer s H E A0 F0 hr
  have nd : (n__law_cell).Nodup := sc__law_cell.nd
  show PSs (cxOf (L2.CX P w) P w K mg base n__law_cell "_law_cell" (defScope s__law_cell) f cdv A outer s H E) (defBody s__law_cell) (tS ⟨K, C, [], fun cls dd _ H' => E cls dd H', c, ec, A0, F0, H⟩ b__law_cell)
  exact (pssd_cons (psd_if (ptd_cmp cs_lt rfl (po_var (i := 1) rfl (.inl rfl) (by decide) (by decide)) (poOf (pd_len rfl rfl rfl m_len (po_var (i := 0) rfl (.inl rfl) (by decide) (by decide)))) (nomark _))
    (pssd_one (psd_ret (pd_ix rfl (po_var (i := 0) rfl (.inl rfl) (by decide) (by decide)) (po_var (i := 1) rfl (.inl rfl) (by decide) (by decide)) (fun _ _ => rfl))))
    pssd_nil)
    (pssd_one (psd_ret pd_int)))
abbrev n__law_row : List Str := ["script", "at", "cell", "found", "time"]
abbrev s__law_row : Stmt := topS 27
def d__law_row : Df := ⟨s__law_row, "_law_row", n__law_row, ["script", "at"], [3], b__law_row⟩
theorem sc__law_row : FnScope n__law_row ["script", "at"] (defScope s__law_row) := ⟨rfl, rfl, rfl, by decide +kernel, rfl, by decide +kernel, by decide +kernel⟩
theorem w__law_row {P : Program} {w : World} {K : PySem.W.Frag} {mg : Str → Option Value} {base : Heap} {C : Addr} {ec : Nat → Option Value} {c : Cf} {k : Nat} (c__law_cell : Callee P w K mg base C ec c k "_law_cell" 28 2) (m_range : mg "range" = none) : BodyOk P w K mg base C ec c k d__law_row := by
  intro f cdv A outer s H E A0 F0 hr
  have nd : (n__law_row).Nodup := sc__law_row.nd
  show PSs (cxOf (L2.CX P w) P w K mg base n__law_row "_law_row" (defScope s__law_row) f cdv A outer s H E) (defBody s__law_row) (tS ⟨K, C, [3], fun cls dd _ H' => E cls dd H', c, ec, A0, F0, H⟩ b__law_row)
  exact (pssd_cons (psd_set (i := 2) nd rfl (.inl rfl) (pd_callE rfl (takes_of rfl rfl rfl rfl) c__law_cell hr rfl (pad_cons (pd_var (i := 0) rfl (.inl rfl) (by decide) (by decide) rfl) (pad_cons (pd_var (i := 1) rfl (.inl rfl) (by decide) (by decide) rfl) pad_nil rfl) rfl) rfl (by decide) rfl rfl (dCons_len (dCons_len dNil_len))) rfl (.inl rfl) rfl)
    (pssd_cons (psd_setF (i := 3) nd rfl (.inl rfl) (pf_lst pad_nil) rfl (.inl rfl) rfl)
    (pssd_cons (psd_for (passes_of rfl) rfl (pid_rng1 rfl m_range (poOf pd_int) rfl) (pgd_name (i := 4) nd rfl (.inl rfl) (.inl rfl)) (notM rfl)
    (pssd_one (psd_if (ptd_cmp cs_lt rfl (poOf (pd_callE rfl (takes_of rfl rfl rfl rfl) c__law_cell hr rfl (pad_cons (pd_var (i := 0) rfl (.inl rfl) (by decide) (by decide) rfl) (pad_cons (pd_var (i := 1) rfl (.inl rfl) (by decide) (by decide) rfl) pad_nil rfl) rfl) rfl (by decide) rfl rfl (dCons_len (dCons_len dNil_len)))) (poOf (pd_pow (poOf pd_int) (poOf pd_int))) (nomark _))
    (pssd_cons (psd_set (i := 2) nd rfl (.inl rfl) (pd_mod (poOf (pd_add (poOf (pd_add (poOf (pd_add (poOf (pd_mul (po_var (i := 2) rfl (.inl rfl) (by decide) (by decide)) (poOf pd_int))) (poOf (pd_mul (poOf pd_int) (po_var (i := 4) rfl (.inl rfl) (by decide) (by decide)))))) (poOf pd_int))) (poOf (pd_callE rfl (takes_of rfl rfl rfl rfl) c__law_cell hr rfl (pad_cons (pd_var (i := 0) rfl (.inl rfl) (by decide) (by decide) rfl) (pad_cons (pd_mod (poOf (pd_add (poOf (pd_add (po_var (i := 1) rfl (.inl rfl) (by decide) (by decide)) (poOf pd_int))) (po_var (i := 4) rfl (.inl rfl) (by decide) (by decide)))) (poOf pd_int)) pad_nil rfl) rfl) rfl (by decide) rfl rfl (dCons_len (dCons_len dNil_len)))))) (poOf pd_int)) rfl (.inl rfl) rfl)
    (pssd_one (psd_appendE (i := 3) rfl (.inl rfl) (by decide) (by decide) rfl (pd_mod (poOf (pd_fdiv (po_var (i := 2) rfl (.inl rfl) (by decide) (by decide)) (poOf pd_int))) (poOf pd_int)) rfl rfl rfl rfl)))
    (pssd_cons (psd_appendE (i := 3) rfl (.inl rfl) (by decide) (by decide) rfl (pd_mod (po_var (i := 2) rfl (.inl rfl) (by decide) (by decide)) (poOf pd_int)) rfl rfl rfl rfl)
    (pssd_one (psd_set (i := 2) nd rfl (.inl rfl) (pd_fdiv (po_var (i := 2) rfl (.inl rfl) (by decide) (by decide)) (poOf pd_int)) rfl (.inl rfl) rfl))))) (fun _ => rfl))
    (pssd_one (psd_retV (i := 3) rfl (.inl rfl) (by decide) (by decide))))))
abbrev n__law_to : List Str := ["one", "place"]
abbrev s__law_to : Stmt := topS 28
def d__law_to : Df := ⟨s__law_to, "_law_to", n__law_to, ["one", "place"], [], b__law_to⟩
theorem sc__law_to : FnScope n__law_to ["one", "place"] (defScope s__law_to) := ⟨rfl, rfl, rfl, by decide +kernel, rfl, by decide +kernel, by decide +kernel⟩
theorem w__law_to {P : Program} {w : World} {K : PySem.W.Frag} {mg : Str → Option Value} {base : Heap} {C : Addr} {ec : Nat → Option Value} {c : Cf} {k : Nat}  : BodyOk P w K mg base C ec c k d__law_to := by
  intro f cdv A outer s H E A0 F0 hr
  have nd : (n__law_to).Nodup := sc__law_to.nd
  show PSs (cxOf (L2.CX P w) P w K mg base n__law_to "_law_to" (defScope s__law_to) f cdv A outer s H E) (defBody s__law_to) (tS ⟨K, C, [], fun cls dd _ H' => E cls dd H', c, ec, A0, F0, H⟩ b__law_to)
  exact (pssd_cons (psd_if (ptd_cmp (cs_eq rfl hr.units) rfl (po_var (i := 1) rfl (.inl rfl) (by decide) (by decide)) (poOf (pd_ix rfl (po_var (i := 0) rfl (.inl rfl) (by decide) (by decide)) (poOf pd_int) (fun _ _ => rfl))) (nomark _))
    (pssd_one (psd_ret (pd_ix rfl (po_var (i := 0) rfl (.inl rfl) (by decide) (by decide)) (poOf pd_int) (fun _ _ => rfl))))
    pssd_nil)
    (pssd_one (psd_ret (pd_ite (ptd_cmp (cs_eq rfl hr.units) rfl (po_var (i := 1) rfl (.inl rfl) (by decide) (by decide)) (poOf (pd_ix rfl (po_var (i := 0) rfl (.inl rfl) (by decide) (by decide)) (poOf pd_int) (fun _ _ => rfl))) (nomark _)) (pd_ix rfl (po_var (i := 0) rfl (.inl rfl) (by decide) (by decide)) (poOf pd_int) (fun _ _ => rfl)) (pd_var (i := 1) rfl (.inl rfl) (by decide) (by decide) rfl)))))
abbrev n__law_result : List Str := ["size", "row", "found", "one", "place"]
abbrev s__law_result : Stmt := topS 29
def d__law_result : Df := ⟨s__law_result, "_law_result", n__law_result, ["size", "row"], [], b__law_result⟩
theorem sc__law_result : FnScope n__law_result ["size", "row"] (defScope s__law_result) := ⟨rfl, rfl, rfl, by decide +kernel, rfl, by decide +kernel, by decide +kernel⟩
theorem w__law_result {P : Program} {w : World} {K : PySem.W.Frag} {mg : Str → Option Value} {base : Heap} {C : Addr} {ec : Nat → Option Value} {c : Cf} {k : Nat} (m_list : mg "list" = none) (m_range : mg "range" = none) (c__law_to : Callee P w K mg base C ec c k "_law_to" 31 2) (m_tuple : mg "tuple" = none) : BodyOk P w K mg base C ec c k d__law_result := by
  intro f cdv A outer s H E A0 F0 hr
  have nd : (n__law_result).Nodup := sc__law_result.nd
  show PSs (cxOf (L2.CX P w) P w K mg base n__law_result "_law_result" (defScope s__law_result) f cdv A outer s H E) (defBody s__law_result) (tS ⟨K, C, [], fun cls dd _ H' => E cls dd H', c, ec, A0, F0, H⟩ b__law_result)
  exact (pssd_cons (psd_set (i := 2) nd rfl (.inl rfl) (pd_lstRng1 rfl rfl m_range rfl m_list (po_var (i := 0) rfl (.inl rfl) (by decide) (by decide)) rfl) rfl (.inl rfl) rfl)
    (pssd_cons (psd_for (passes_of rfl) rfl (pid_seqF (pd_var (i := 1) rfl (.inl rfl) (by decide) (by decide) rfl)) (pgd_name (i := 3) nd rfl (.inr rfl) (.inl rfl)) (notM rfl)
    (pssd_one (psd_setLcE (own := [("place", 4)]) rfl nd (pid_seqS (po_var (i := 2) rfl (.inl rfl) (by decide) (by decide))) (blkOk_by rfl) (fun _ _ _ _ _ => (pgd_name (i := 4) nd rfl (.inl rfl) (.inr rfl))) (fun _ _ _ _ _ => (pts_cond (.inl ⟨rfl, rfl⟩))) (fun _ _ _ _ _ => (pd_callE rfl takes_none5 c__law_to hr rfl (pad_cons (pd_var (i := 3) rfl (.inr (.inl rfl)) (by decide) (by decide) rfl) (pad_cons (pd_var (i := 4) rfl (.inl rfl) (by decide) (by decide) rfl) pad_nil rfl) rfl) rfl (by decide) rfl rfl (dCons_len (dCons_len dNil_len)))) (fun _ => rfl) (inL rfl) rfl rfl rfl)) (fun _ => rfl))
    (pssd_one (psd_ret (pd_tuple rfl rfl m_tuple (po_var (i := 2) rfl (.inl rfl) (by decide) (by decide)))))))
abbrev n__law_is_round : List Str := ["size", "row", "place"]
abbrev s__law_is_round : Stmt := topS 30
def d__law_is_round : Df := ⟨s__law_is_round, "_law_is_round", n__law_is_round, ["size", "row"], [], b__law_is_round⟩
theorem sc__law_is_round : FnScope n__law_is_round ["size", "row"] (defScope s__law_is_round) := ⟨rfl, rfl, rfl, by decide +kernel, rfl, by decide +kernel, by decide +kernel⟩
theorem w__law_is_round {P : Program} {w : World} {K : PySem.W.Frag} {mg : Str → Option Value} {base : Heap} {C : Addr} {ec : Nat → Option Value} {c : Cf} {k : Nat} (c__law_result : Callee P w K mg base C ec c k "_law_result" 37 2) (m_tuple : mg "tuple" = none) (m_range : mg "range" = none) : BodyOk P w K mg base C ec c k d__law_is_round := by
  intro f cdv A outer s H E A0 F0 hr
  have nd : (n__law_is_round).Nodup := sc__law_is_round.nd
  show PSs (cxOf (L2.CX P w) P w K mg base n__law_is_round "_law_is_round" (defScope s__law_is_round) f cdv A outer s H E) (defBody s__law_is_round) (tS ⟨K, C, [], fun cls dd _ H' => E cls dd H', c, ec, A0, F0, H⟩ b__law_is_round)
  exact (pssd_one (psd_ret (pd_cmp (cs_eq rfl hr.units) (poOf (pd_callE rfl (takes_of rfl rfl rfl rfl) c__law_result hr rfl (pad_cons (pd_var (i := 0) rfl (.inr (.inl rfl)) (by decide) (by decide) rfl) (pad_cons (pd_var (i := 1) rfl (.inl rfl) (by decide) (by decide) rfl) pad_nil rfl) rfl) rfl (by decide) rfl rfl (dCons_len (dCons_len dNil_len)))) (poOf (pd_tuple rfl rfl m_tuple (poOf (pd_comp (own := [("place", 2)]) rfl nd (pid_rng1 rfl m_range (po_var (i := 0) rfl (.inr (.inl rfl)) (by decide) (by decide)) rfl) (blkOk_by rfl) (fun _ _ _ _ _ => (pgd_name (i := 2) nd rfl (.inl rfl) (.inr rfl))) (fun _ _ _ _ _ => (pts_cond (.inl ⟨rfl, rfl⟩))) (fun _ _ _ _ _ => (pd_mod (poOf (pd_add (po_var (i := 2) rfl (.inl rfl) (by decide) (by decide)) (poOf pd_int))) (po_var (i := 0) rfl (.inr (.inl rfl)) (by decide) (by decide)))) (fun _ => rfl) (inL rfl))))) (nomark _))))
abbrev n__law_round : List Str := ["script", "at", "size", "draws", "row", "time", "number", "one", "other", "place"]
abbrev s__law_round : Stmt := topS 31
def d__law_round : Df := ⟨s__law_round, "_law_round", n__law_round, ["script", "at", "size"], [4], b__law_round⟩
theorem sc__law_round : FnScope n__law_round ["script", "at", "size"] (defScope s__law_round) := ⟨rfl, rfl, rfl, by decide +kernel, rfl, by decide +kernel, by decide +kernel⟩
theorem w__law_round {P : Program} {w : World} {K : PySem.W.Frag} {mg : Str → Option Value} {base : Heap} {C : Addr} {ec : Nat → Option Value} {c : Cf} {k : Nat} (c__law_row : Callee P w K mg base C ec c k "_law_row" 29 2) (m_range : mg "range" = none) (m_tuple : mg "tuple" = none) (m_sorted : mg "sorted" = none) (c__law_to : Callee P w K mg base C ec c k "_law_to" 31 2) : BodyOk P w K mg base C ec c k d__law_round := by
  intro f cdv A outer s H E A0 F0 hr
  have nd : (n__law_round).Nodup := sc__law_round.nd
  show PSs (cxOf (L2.CX P w) P w K mg base n__law_round "_law_round" (defScope s__law_round) f cdv A outer s H E) (defBody s__law_round) (tS ⟨K, C, [4], fun cls dd _ H' => E cls dd H', c, ec, A0, F0, H⟩ b__law_round)
  exact (pssd_cons (psd_set (i := 3) nd rfl (.inl rfl) (pd_callE rfl (takes_of rfl rfl rfl rfl) c__law_row hr rfl (pad_cons (pd_var (i := 0) rfl (.inl rfl) (by decide) (by decide) rfl) (pad_cons (pd_var (i := 1) rfl (.inl rfl) (by decide) (by decide) rfl) pad_nil rfl) rfl) rfl (by decide) rfl rfl (dCons_len (dCons_len dNil_len))) rfl (.inl rfl) rfl)
    (pssd_cons (psd_setLcE (own := [("place", 9)]) rfl nd (pid_rng2 rfl m_range (poOf pd_int) (po_var (i := 2) rfl (.inl rfl) (by decide) (by decide)) rfl rfl) (blkOk_by rfl) (fun _ _ _ _ _ => (pgd_name (i := 9) nd rfl (.inl rfl) (.inr rfl))) (fun _ _ _ _ _ => (pts_cond (.inl ⟨rfl, rfl⟩))) (fun _ _ _ _ _ => (pd_tup (pad_cons pd_int (pad_cons (pd_var (i := 9) rfl (.inl rfl) (by decide) (by decide) rfl) pad_nil rfl) rfl))) (fun _ => rfl) (inL rfl) rfl rfl rfl)
    (pssd_cons (psd_for (passes_of rfl) rfl (pid_rng1 rfl m_range (poOf (pd_ite (ptd_cmp cs_gt rfl (po_var (i := 2) rfl (.inl rfl) (by decide) (by decide)) (poOf pd_int) (nomark _)) pd_int pd_int)) rfl) (pgd_name (i := 5) nd rfl (.inl rfl) (.inl rfl)) (notM rfl)
    (pssd_cons (psd_set (i := 6) nd rfl (.inl rfl) (pd_mod (poOf (pd_ix rfl (po_var (i := 3) rfl (.inl rfl) (by decide) (by decide)) (po_var (i := 5) rfl (.inl rfl) (by decide) (by decide)) (fun _ _ => rfl))) (poOf (pd_sub (po_var (i := 2) rfl (.inl rfl) (by decide) (by decide)) (poOf pd_int)))) rfl (.inl rfl) rfl)
    (pssd_cons (psd_asgT (pd_tup (pad_cons (pd_ix rfl (po_var (i := 4) rfl (.inl rfl) (by decide) (by decide)) (po_var (i := 6) rfl (.inl rfl) (by decide) (by decide)) (fun _ _ => rfl)) (pad_cons (pd_ix rfl (po_var (i := 4) rfl (.inl rfl) (by decide) (by decide)) (poOf (pd_add (po_var (i := 6) rfl (.inl rfl) (by decide) (by decide)) (poOf pd_int))) (fun _ _ => rfl)) pad_nil rfl) rfl)) (pgd_tup rfl (pgsd_cons (pgd_name (i := 7) nd rfl (.inr rfl) (.inl rfl)) (pgsd_cons (pgd_name (i := 8) nd rfl (.inr rfl) (.inl rfl)) pgsd_nil rfl) rfl) rfl rfl rfl) (notM rfl) rfl rfl rfl)
    (pssd_one (psd_if (ptd_cmp (cs_eq rfl hr.units) rfl (poOf (pd_mod (poOf (pd_ix rfl (po_var (i := 3) rfl (.inl rfl) (by decide) (by decide)) (poOf (pd_add (poOf pd_int) (po_var (i := 5) rfl (.inl rfl) (by decide) (by decide)))) (fun _ _ => rfl))) (poOf pd_int))) (poOf pd_int) (nomark _))
    (pssd_cons (psd_setIx (i := 4) rfl (.inl rfl) (by decide) (by decide) rfl (pd_var (i := 8) rfl (.inr (.inl rfl)) (by decide) (by decide) rfl) (po_var (i := 6) rfl (.inl rfl) (by decide) (by decide)) (fun _ => rfl) rfl rfl rfl)
    (pssd_one (psd_setIx (i := 4) rfl (.inl rfl) (by decide) (by decide) rfl (pd_tuple rfl rfl m_tuple (poOf (pd_sorted rfl hr.units rfl m_sorted (poOf (pd_comp (own := [("place", 9)]) rfl nd (pid_seqS (po_var (i := 7) rfl (.inr (.inl rfl)) (by decide) (by decide))) (blkOk_by rfl) (fun _ _ _ _ _ => (pgd_name (i := 9) nd rfl (.inl rfl) (.inr rfl))) (fun _ _ _ _ _ => (pts_cond (.inl ⟨rfl, rfl⟩))) (fun _ _ _ _ _ => (pd_callE rfl takes_none5 c__law_to hr rfl (pad_cons (pd_var (i := 8) rfl (.inr (.inl rfl)) (by decide) (by decide) rfl) (pad_cons (pd_var (i := 9) rfl (.inl rfl) (by decide) (by decide) rfl) pad_nil rfl) rfl) rfl (by decide) rfl rfl (dCons_len (dCons_len dNil_len)))) (fun _ => rfl) (inL rfl)))))) (poOf (pd_add (po_var (i := 6) rfl (.inl rfl) (by decide) (by decide)) (poOf pd_int))) (fun _ => rfl) rfl rfl rfl)))
    (pssd_cons (psd_setIx (i := 4) rfl (.inl rfl) (by decide) (by decide) rfl (pd_tuple rfl rfl m_tuple (poOf (pd_sorted rfl hr.units rfl m_sorted (poOf (pd_comp (own := [("place", 9)]) rfl nd (pid_seqS (po_var (i := 8) rfl (.inr (.inl rfl)) (by decide) (by decide))) (blkOk_by rfl) (fun _ _ _ _ _ => (pgd_name (i := 9) nd rfl (.inl rfl) (.inr rfl))) (fun _ _ _ _ _ => (pts_cond (.inl ⟨rfl, rfl⟩))) (fun _ _ _ _ _ => (pd_callE rfl takes_none5 c__law_to hr rfl (pad_cons (pd_var (i := 7) rfl (.inr (.inl rfl)) (by decide) (by decide) rfl) (pad_cons (pd_var (i := 9) rfl (.inl rfl) (by decide) (by decide) rfl) pad_nil rfl) rfl) rfl (by decide) rfl rfl (dCons_len (dCons_len dNil_len)))) (fun _ => rfl) (inL rfl)))))) (po_var (i := 6) rfl (.inl rfl) (by decide) (by decide)) (fun _ => rfl) rfl rfl rfl)
    (pssd_one (psd_setIx (i := 4) rfl (.inl rfl) (by decide) (by decide) rfl (pd_var (i := 7) rfl (.inr (.inl rfl)) (by decide) (by decide) rfl) (poOf (pd_add (po_var (i := 6) rfl (.inl rfl) (by decide) (by decide)) (poOf pd_int))) (fun _ => rfl) rfl rfl rfl))))))) (fun _ => rfl))
    (pssd_one (psd_ret (pd_tuple rfl rfl m_tuple (po_var (i := 4) rfl (.inl rfl) (by decide) (by decide))))))))
abbrev n__law_road : List Str := ["size", "row", "other", "e"]
abbrev s__law_road : Stmt := topS 32
def d__law_road : Df := ⟨s__law_road, "_law_road", n__law_road, ["size", "row", "other"], [], b__law_road⟩
theorem sc__law_road : FnScope n__law_road ["size", "row", "other"] (defScope s__law_road) := ⟨rfl, rfl, rfl, by decide +kernel, rfl, by decide +kernel, by decide +kernel⟩
theorem w__law_road {P : Program} {w : World} {K : PySem.W.Frag} {mg : Str → Option Value} {base : Heap} {C : Addr} {ec : Nat → Option Value} {c : Cf} {k : Nat} (c_road : Callee P w K mg base C ec c k "road" 59 3) (xa : XAll K mg ec xsL) (m_isinstance : mg "isinstance" = none) : BodyOk P w K mg base C ec c k d__law_road := by
  intro f cdv A outer s H E A0 F0 hr
  have nd : (n__law_road).Nodup := sc__law_road.nd
  show PSs (cxOf (L2.CX P w) P w K mg base n__law_road "_law_road" (defScope s__law_road) f cdv A outer s H E) (defBody s__law_road) (tS ⟨K, C, [], fun cls dd _ H' => E cls dd H', c, ec, A0, F0, H⟩ b__law_road)
  exact (pssd_one (psd_try rfl rfl nd (takes_of rfl rfl rfl rfl) (fun W pn xe tk po => (pssd_one (psd_ret (pd_callE rfl tk c_road hr rfl (pad_cons (pd_var (i := 0) rfl (.inl rfl) (by decide) (by decide) rfl) (pad_cons (pd_var (i := 1) rfl (.inl rfl) (by decide) (by decide) rfl) (pad_cons (pd_var (i := 2) rfl (.inl rfl) (by decide) (by decide) rfl) pad_nil rfl) rfl) rfl) rfl (by decide) rfl rfl (dCons_len (dCons_len (dCons_len dNil_len)))))))
    (hs_two (xs := xsL) (i := 3) xa (k := 7) (k2 := 0) (k3 := 3) (by decide) (by decide) (by decide) rfl rfl rfl rfl m_isinstance rfl rfl (.inl rfl) (by decide) (by decide) (by decide) (by decide) (by decide) .nil)))
abbrev n_law : List Str := ["script", "draws", "size", "row", "other", "found", "level", "seen", "many", "later", "one", "number", "step", "near", "wrong"]
abbrev s_law : Stmt := topS 33
def d_law : Df := ⟨s_law, "law", n_law, ["script"], [], b_law⟩
theorem sc_law : FnScope n_law ["script"] (defScope s_law) := ⟨rfl, rfl, rfl, by decide +kernel, rfl, by decide +kernel, by decide +kernel⟩
theorem w_law {P : Program} {w : World} {K : PySem.W.Frag} {mg : Str → Option Value} {base : Heap} {C : Addr} {ec : Nat → Option Value} {c : Cf} {k : Nat} (c__law_row : Callee P w K mg base C ec c k "_law_row" 29 2) (c__law_round : Callee P w K mg base C ec c k "_law_round" 32 3) (c_road : Callee P w K mg base C ec c k "road" 59 3) (m_range : mg "range" = none) (c_move_later : Callee P w K mg base C ec c k "move_later" 54 3) (c_move_earlier : Callee P w K mg base C ec c k "move_earlier" 55 3) (m_sorted : mg "sorted" = none) (m_set : mg "set" = none) (m_len : mg "len" = none) (c__law_is_round : Callee P w K mg base C ec c k "_law_is_round" 38 2) (c__law_road : Callee P w K mg base C ec c k "_law_road" 60 3) : BodyOk P w K mg base C ec c k d_law := by
  intro f cdv A outer s H E A0 F0 hr
  have nd : (n_law).Nodup := sc_law.nd
  show PSs (cxOf (L2.CX P w) P w K mg base n_law "law" (defScope s_law) f cdv A outer s H E) (defBody s_law) (tS ⟨K, C, [], fun cls dd _ H' => E cls dd H', c, ec, A0, F0, H⟩ b_law)
  exact (pssd_cons (psd_set (i := 1) nd rfl (.inl rfl) (pd_callE rfl (takes_of rfl rfl rfl rfl) c__law_row hr rfl (pad_cons (pd_var (i := 0) rfl (.inl rfl) (by decide) (by decide) rfl) (pad_cons pd_int pad_nil rfl) rfl) rfl (by decide) rfl rfl (dCons_len (dCons_len dNil_len))) rfl (.inl rfl) rfl)
    (pssd_cons (psd_set (i := 2) nd rfl (.inl rfl) (pd_add (poOf pd_int) (poOf (pd_mod (poOf (pd_ix rfl (po_var (i := 1) rfl (.inl rfl) (by decide) (by decide)) (poOf pd_int) (fun _ _ => rfl))) (poOf pd_int)))) rfl (.inl rfl) rfl)
    (pssd_cons (psd_par (i := 3) (j := 4) rfl nd rfl rfl (by decide) rfl rfl (pad_cons (pd_callE rfl (takes_of rfl rfl rfl rfl) c__law_round hr rfl (pad_cons (pd_var (i := 0) rfl (.inl rfl) (by decide) (by decide) rfl) (pad_cons pd_int (pad_cons (pd_var (i := 2) rfl (.inl rfl) (by decide) (by decide) rfl) pad_nil rfl) rfl) rfl) rfl (by decide) rfl rfl (dCons_len (dCons_len (dCons_len dNil_len)))) (pad_cons (pd_callE rfl (takes_of rfl rfl rfl rfl) c__law_round hr rfl (pad_cons (pd_var (i := 0) rfl (.inl rfl) (by decide) (by decide) rfl) (pad_cons pd_int (pad_cons (pd_var (i := 2) rfl (.inl rfl) (by decide) (by decide) rfl) pad_nil rfl) rfl) rfl) rfl (by decide) rfl rfl (dCons_len (dCons_len (dCons_len dNil_len)))) pad_nil rfl) rfl) rfl rfl rfl)
    (pssd_cons (psd_set (i := 5) nd rfl (.inl rfl) (pd_callE rfl (takes_of rfl rfl rfl rfl) c_road hr rfl (pad_cons (pd_var (i := 2) rfl (.inl rfl) (by decide) (by decide) rfl) (pad_cons (pd_var (i := 3) rfl (.inl rfl) (by decide) (by decide) rfl) (pad_cons (pd_var (i := 4) rfl (.inl rfl) (by decide) (by decide) rfl) pad_nil rfl) rfl) rfl) rfl (by decide) rfl rfl (dCons_len (dCons_len (dCons_len dNil_len)))) rfl (.inl rfl) rfl)
    (pssd_cons (psd_asgT (pd_tup (pad_cons (pd_lst (pad_cons (pd_var (i := 3) rfl (.inl rfl) (by decide) (by decide) rfl) pad_nil rfl)) (pad_cons (pd_lst (pad_cons (pd_var (i := 3) rfl (.inl rfl) (by decide) (by decide) rfl) pad_nil rfl)) (pad_cons pd_int pad_nil rfl) rfl) rfl)) (pgd_tup rfl (pgsd_cons (pgd_name (i := 6) nd rfl (.inl rfl) (.inl rfl)) (pgsd_cons (pgd_name (i := 7) nd rfl (.inr rfl) (.inl rfl)) (pgsd_cons (pgd_name (i := 8) nd rfl (.inl rfl) (.inl rfl)) pgsd_nil rfl) rfl) rfl) rfl rfl rfl) (notM rfl) rfl rfl rfl)
    (pssd_cons (psd_while (n := 1000) (passes_of rfl) (ptd_cmp (cs_notin rfl hr.units) rfl (po_var (i := 4) rfl (.inl rfl) (by decide) (by decide)) (po_var (i := 7) rfl (.inr (.inl rfl)) (by decide) (by decide)) rfl)
    (pssd_cons (psd_set (i := 9) nd rfl (.inl rfl) (pd_lst pad_nil) rfl (.inl rfl) rfl)
    (pssd_cons (psd_for (passes_of rfl) rfl (pid_seqF (pd_var (i := 6) rfl (.inl rfl) (by decide) (by decide) rfl)) (pgd_name (i := 10) nd rfl (.inl rfl) (.inl rfl)) (notM rfl)
    (pssd_one (psd_for (passes_of rfl) rfl (pid_rng1 rfl m_range (poOf (pd_sub (po_var (i := 2) rfl (.inl rfl) (by decide) (by decide)) (poOf pd_int))) rfl) (pgd_name (i := 11) nd rfl (.inl rfl) (.inl rfl)) (notM rfl)
    (pssd_one (psd_set (i := 9) nd rfl (.inl rfl) (pd_add (po_var (i := 9) rfl (.inl rfl) (by decide) (by decide)) (poOf (pd_lst (pad_cons (pd_callE rfl (takes_of rfl rfl rfl rfl) c_move_later hr rfl (pad_cons (pd_var (i := 2) rfl (.inl rfl) (by decide) (by decide) rfl) (pad_cons (pd_var (i := 10) rfl (.inl rfl) (by decide) (by decide) rfl) (pad_cons (pd_var (i := 11) rfl (.inl rfl) (by decide) (by decide) rfl) pad_nil rfl) rfl) rfl) rfl (by decide) rfl rfl (dCons_len (dCons_len (dCons_len dNil_len)))) (pad_cons (pd_callE rfl (takes_of rfl rfl rfl rfl) c_move_earlier hr rfl (pad_cons (pd_var (i := 2) rfl (.inl rfl) (by decide) (by decide) rfl) (pad_cons (pd_var (i := 10) rfl (.inl rfl) (by decide) (by decide) rfl) (pad_cons (pd_var (i := 11) rfl (.inl rfl) (by decide) (by decide) rfl) pad_nil rfl) rfl) rfl) rfl (by decide) rfl rfl (dCons_len (dCons_len (dCons_len dNil_len)))) pad_nil rfl) rfl)))) rfl (.inl rfl) rfl)) (fun _ => rfl))) (fun _ => rfl))
    (pssd_cons (psd_setLcE (own := [("one", 10)]) rfl nd (pid_seqS (poOf (pd_ssu rfl rfl hr.units rfl m_sorted rfl m_set (po_var (i := 9) rfl (.inl rfl) (by decide) (by decide)) rfl rfl))) (blkOk_by rfl) (fun _ _ _ _ _ => (pgd_name (i := 10) nd rfl (.inl rfl) (.inr rfl))) (fun _ _ _ _ _ => (pts_cond (.inr ⟨_, _, rfl, rfl, (ptd_cmp (cs_notin rfl hr.units) rfl (po_var (i := 10) rfl (.inl rfl) (by decide) (by decide)) (po_var (i := 7) rfl (.inr (.inl rfl)) (by decide) (by decide)) rfl)⟩))) (fun _ _ _ _ _ => (pd_var (i := 10) rfl (.inl rfl) (by decide) (by decide) rfl)) (fun _ => rfl) (inL rfl) rfl rfl rfl)
    (pssd_cons (psd_set (i := 7) nd rfl (.inr rfl) (pd_add (po_var (i := 7) rfl (.inr (.inl rfl)) (by decide) (by decide)) (po_var (i := 6) rfl (.inl rfl) (by decide) (by decide))) rfl (.inl rfl) rfl)
    (pssd_one (psd_set (i := 8) nd rfl (.inl rfl) (pd_add (po_var (i := 8) rfl (.inl rfl) (by decide) (by decide)) (poOf pd_int)) rfl (.inl rfl) rfl)))))))
    (pssd_cons (psd_if (PW.pt (pwd_or (ptd_cmp (cs_ne rfl hr.units) rfl (poOf (pd_ix rfl (po_var (i := 5) rfl (.inl rfl) (by decide) (by decide)) (poOf pd_int) (fun _ _ => rfl))) (po_var (i := 3) rfl (.inl rfl) (by decide) (by decide)) (nomark _)) (pwd_or (ptd_cmp (cs_ne rfl hr.units) rfl (poOf (pd_ix rfl (po_var (i := 5) rfl (.inl rfl) (by decide) (by decide)) (poOf (pd_neg (poOf pd_int))) (fun _ _ => rfl))) (po_var (i := 4) rfl (.inl rfl) (by decide) (by decide)) (nomark _)) (pwd_or1 (ptd_cmp (cs_ne rfl hr.units) rfl (poOf (pd_len rfl rfl rfl m_len (po_var (i := 5) rfl (.inl rfl) (by decide) (by decide)))) (poOf (pd_add (po_var (i := 8) rfl (.inl rfl) (by decide) (by decide)) (poOf pd_int))) (nomark _))))))
    (pssd_one (psd_ret pd_bl))
    pssd_nil)
    (pssd_cons (psd_for (passes_of rfl) rfl (pid_rng2 rfl m_range (poOf pd_int) (poOf (pd_len rfl rfl rfl m_len (po_var (i := 5) rfl (.inl rfl) (by decide) (by decide)))) rfl rfl) (pgd_name (i := 12) nd rfl (.inl rfl) (.inl rfl)) (notM rfl)
    (pssd_cons (psd_set (i := 13) nd rfl (.inl rfl) (pd_lst pad_nil) rfl (.inl rfl) rfl)
    (pssd_cons (psd_for (passes_of rfl) rfl (pid_rng1 rfl m_range (poOf (pd_sub (po_var (i := 2) rfl (.inl rfl) (by decide) (by decide)) (poOf pd_int))) rfl) (pgd_name (i := 11) nd rfl (.inl rfl) (.inl rfl)) (notM rfl)
    (pssd_one (psd_set (i := 13) nd rfl (.inl rfl) (pd_add (po_var (i := 13) rfl (.inl rfl) (by decide) (by decide)) (poOf (pd_lst (pad_cons (pd_callE rfl (takes_of rfl rfl rfl rfl) c_move_later hr rfl (pad_cons (pd_var (i := 2) rfl (.inl rfl) (by decide) (by decide) rfl) (pad_cons (pd_ix rfl (po_var (i := 5) rfl (.inl rfl) (by decide) (by decide)) (poOf (pd_sub (po_var (i := 12) rfl (.inl rfl) (by decide) (by decide)) (poOf pd_int))) (fun _ _ => rfl)) (pad_cons (pd_var (i := 11) rfl (.inl rfl) (by decide) (by decide) rfl) pad_nil rfl) rfl) rfl) rfl (by decide) rfl rfl (dCons_len (dCons_len (dCons_len dNil_len)))) (pad_cons (pd_callE rfl (takes_of rfl rfl rfl rfl) c_move_earlier hr rfl (pad_cons (pd_var (i := 2) rfl (.inl rfl) (by decide) (by decide) rfl) (pad_cons (pd_ix rfl (po_var (i := 5) rfl (.inl rfl) (by decide) (by decide)) (poOf (pd_sub (po_var (i := 12) rfl (.inl rfl) (by decide) (by decide)) (poOf pd_int))) (fun _ _ => rfl)) (pad_cons (pd_var (i := 11) rfl (.inl rfl) (by decide) (by decide) rfl) pad_nil rfl) rfl) rfl) rfl (by decide) rfl rfl (dCons_len (dCons_len (dCons_len dNil_len)))) pad_nil rfl) rfl)))) rfl (.inl rfl) rfl)) (fun _ => rfl))
    (pssd_one (psd_if (PW.pt (pwd_or (ptd_cmp (cs_notin rfl hr.units) rfl (poOf (pd_ix rfl (po_var (i := 5) rfl (.inl rfl) (by decide) (by decide)) (po_var (i := 12) rfl (.inl rfl) (by decide) (by decide)) (fun _ _ => rfl))) (po_var (i := 13) rfl (.inl rfl) (by decide) (by decide)) rfl) (pwd_or1 (ptd_not (pt_of rfl (poOf (pd_callE rfl (takes_of rfl rfl rfl rfl) c__law_is_round hr rfl (pad_cons (pd_var (i := 2) rfl (.inl rfl) (by decide) (by decide) rfl) (pad_cons (pd_ix rfl (po_var (i := 5) rfl (.inl rfl) (by decide) (by decide)) (po_var (i := 12) rfl (.inl rfl) (by decide) (by decide)) (fun _ _ => rfl)) pad_nil rfl) rfl) rfl (by decide) rfl rfl (dCons_len (dCons_len dNil_len)))) (fun _ => rfl))))))
    (pssd_one (psd_ret pd_bl))
    pssd_nil)))) (fun _ => rfl))
    (pssd_cons (psd_set (i := 14) nd rfl (.inl rfl) (pd_mul (poOf (pd_tup (pad_cons (pd_tup (pad_cons pd_int (pad_cons pd_int pad_nil rfl) rfl)) pad_nil rfl))) (poOf (pd_sub (po_var (i := 2) rfl (.inl rfl) (by decide) (by decide)) (poOf pd_int)))) rfl (.inl rfl) rfl)
    (pssd_one (psd_ret (pd_or rfl (pd_cmp (cs_eq rfl hr.units) (po_var (i := 2) rfl (.inl rfl) (by decide) (by decide)) (poOf pd_int) (nomark _)) (pd_one (pd_and rfl (pd_cmp (cs_eq rfl hr.units) (poOf (pd_callE rfl (takes_of rfl rfl rfl rfl) c__law_road hr rfl (pad_cons (pd_var (i := 2) rfl (.inl rfl) (by decide) (by decide) rfl) (pad_cons (pd_var (i := 3) rfl (.inl rfl) (by decide) (by decide) rfl) (pad_cons (pd_var (i := 14) rfl (.inl rfl) (by decide) (by decide) rfl) pad_nil rfl) rfl) rfl) rfl (by decide) rfl rfl (dCons_len (dCons_len (dCons_len dNil_len))))) (poOf pd_str) (nomark _)) (pd_one (pd_cmp (cs_eq rfl hr.units) (poOf (pd_callE rfl (takes_of rfl rfl rfl rfl) c__law_road hr rfl (pad_cons (pd_var (i := 2) rfl (.inl rfl) (by decide) (by decide) rfl) (pad_cons (pd_var (i := 14) rfl (.inl rfl) (by decide) (by decide) rfl) (pad_cons (pd_var (i := 3) rfl (.inl rfl) (by decide) (by decide) rfl) pad_nil rfl) rfl) rfl) rfl (by decide) rfl rfl (dCons_len (dCons_len (dCons_len dNil_len))))) (poOf pd_str) (nomark _)))))))))))))))))
def defs : List (Nat × Df) := [(1, d_in_range), (2, d_check_size), (3, d_is_exchange), (4, d_are_exchanges), (5, d_check_list), (7, d_moved), (8, d_result_of), (10, d_is_round_list), (50, d_through), (51, d_check_number), (52, d_later_of), (53, d_earlier_of), (54, d_move_later), (55, d_move_earlier), (35, d_check_round), (59, d_road), (28, d__law_cell), (29, d__law_row), (31, d__law_to), (37, d__law_result), (38, d__law_is_round), (32, d__law_round), (60, d__law_road), (0, d_law)]
def fa : List He.Fa := [.free "isinstance", .free "int", .free "bool", .free "tuple", .free "len", .free "range", .free "sorted", .free "list", .free "set", .int "MAX_SIZE" 6, .glo "in_range", .glo "check_size", .glo "is_exchange", .glo "are_exchanges", .glo "check_list", .glo "moved", .glo "result_of", .glo "is_round_list", .glo "through", .glo "check_number", .glo "later_of", .glo "earlier_of", .glo "move_later", .glo "move_earlier", .glo "check_round", .glo "road", .glo "_law_cell", .glo "_law_row", .glo "_law_to", .glo "_law_result", .glo "_law_is_round", .glo "_law_round", .glo "_law_road", .glo "law"]
def fn : List He.DefD := [⟨("in_range", none), "in_range", "in_range", defArgs s_in_range, defBody s_in_range, defScope s_in_range, [], []⟩, ⟨("check_size", none), "check_size", "check_size", defArgs s_check_size, defBody s_check_size, defScope s_check_size, [], []⟩, ⟨("is_exchange", none), "is_exchange", "is_exchange", defArgs s_is_exchange, defBody s_is_exchange, defScope s_is_exchange, [], []⟩, ⟨("are_exchanges", none), "are_exchanges", "are_exchanges", defArgs s_are_exchanges, defBody s_are_exchanges, defScope s_are_exchanges, [], []⟩, ⟨("check_list", none), "check_list", "check_list", defArgs s_check_list, defBody s_check_list, defScope s_check_list, [], []⟩, ⟨("moved", none), "moved", "moved", defArgs s_moved, defBody s_moved, defScope s_moved, [], []⟩, ⟨("result_of", none), "result_of", "result_of", defArgs s_result_of, defBody s_result_of, defScope s_result_of, [], []⟩, ⟨("is_round_list", none), "is_round_list", "is_round_list", defArgs s_is_round_list, defBody s_is_round_list, defScope s_is_round_list, [], []⟩, ⟨("through", none), "through", "through", defArgs s_through, defBody s_through, defScope s_through, [], []⟩, ⟨("check_number", none), "check_number", "check_number", defArgs s_check_number, defBody s_check_number, defScope s_check_number, [], []⟩, ⟨("later_of", none), "later_of", "later_of", defArgs s_later_of, defBody s_later_of, defScope s_later_of, [], []⟩, ⟨("earlier_of", none), "earlier_of", "earlier_of", defArgs s_earlier_of, defBody s_earlier_of, defScope s_earlier_of, [], []⟩, ⟨("move_later", none), "move_later", "move_later", defArgs s_move_later, defBody s_move_later, defScope s_move_later, [], []⟩, ⟨("move_earlier", none), "move_earlier", "move_earlier", defArgs s_move_earlier, defBody s_move_earlier, defScope s_move_earlier, [], []⟩, ⟨("check_round", none), "check_round", "check_round", defArgs s_check_round, defBody s_check_round, defScope s_check_round, [], []⟩, ⟨("road", none), "road", "road", defArgs s_road, defBody s_road, defScope s_road, [], []⟩, ⟨("_law_cell", none), "_law_cell", "_law_cell", defArgs s__law_cell, defBody s__law_cell, defScope s__law_cell, [], []⟩, ⟨("_law_row", none), "_law_row", "_law_row", defArgs s__law_row, defBody s__law_row, defScope s__law_row, [], []⟩, ⟨("_law_to", none), "_law_to", "_law_to", defArgs s__law_to, defBody s__law_to, defScope s__law_to, [], []⟩, ⟨("_law_result", none), "_law_result", "_law_result", defArgs s__law_result, defBody s__law_result, defScope s__law_result, [], []⟩, ⟨("_law_is_round", none), "_law_is_round", "_law_is_round", defArgs s__law_is_round, defBody s__law_is_round, defScope s__law_is_round, [], []⟩, ⟨("_law_round", none), "_law_round", "_law_round", defArgs s__law_round, defBody s__law_round, defScope s__law_round, [], []⟩, ⟨("_law_road", none), "_law_road", "_law_road", defArgs s__law_road, defBody s__law_road, defScope s__law_road, [], []⟩, ⟨("law", none), "law", "law", defArgs s_law, defBody s_law, defScope s_law, [], []⟩]
abbrev R : PySem.W.OpenRow := PySem.W.OpenLaw.row PySem.Challenge.rw_roundexchanges_k08_whole_roads
abbrev hk : PySem.W.Hook := hookX 4 fa fn xsL
abbrev ob : PySem.W.SharedT → He.AlD × Bool := obX 4 fa fn xsL
abbrev loose : List Str := (["ExchangeError", "InvalidSize", "InvalidList", "InvalidPlace", "NotRound", "MAX_SIZE", "in_range", "check_size", "is_exchange", "are_exchanges", "check_list", "moved", "result_of", "is_round_list", "through", "check_number", "later_of", "earlier_of", "move_later", "move_earlier", "check_round", "road", "_law_cell", "_law_row", "_law_to", "_law_result", "_law_is_round", "_law_round", "_law_road"] : List Str)
theorem runs (w : World) : HandSHeadRun.RunEq R (PySem.W.view R.prog [33]) hk ob 4000 loose w := by
  intro os
  kernel_rfl
theorem facts {P : Program} {w : World} {K : PySem.W.Frag} {h : Heap} {mg : Str → Option Value} {f : Addr} (X : K.In h) (G : h.Ns mainGlobals mg) (hfa : mg ("law" : Str) = some (.ref f)) (c : He.SaysD fa fn K ∧ xsOk K xsL = true) (n : Nat)
    (hL : ∀ ns : List Int, ns.length ≤ 63 → ∃ w', run (tbOf defs) n 0 [dScript ns] [] = some (.val (.bool true), w')) :
    ∃ (fd : FuncData) (sp : Sp), (∀ (s : Shared) (v : Value), BindsTo s fd ⟨[v], []⟩ [("script", v)]) ∧ (∀ (H : Hp) (a : Addr) (ns : List Int), ns.length ≤ 63 → Only H → SqL K H a (ns.map V.int) → sp [.ref a] H (fun v _ => v = .bl true) fun _ _ _ => False) ∧ ∀ base : Heap, K.In base → base.Ns mainGlobals mg → FnOk P w K mg base (L2.CX P w) n f fd ["script"] sp := by
  have xa : XAll K mg (ecOf K xsL) xsL := xsOk_all X G c.2
  have m_isinstance : mg "isinstance" = none := He.free_ok X G (c.1.fact 0 (f := .free "isinstance") rfl)
  have m_int : mg "int" = none := He.free_ok X G (c.1.fact 1 (f := .free "int") rfl)
  have m_bool : mg "bool" = none := He.free_ok X G (c.1.fact 2 (f := .free "bool") rfl)
  have m_tuple : mg "tuple" = none := He.free_ok X G (c.1.fact 3 (f := .free "tuple") rfl)
  have m_len : mg "len" = none := He.free_ok X G (c.1.fact 4 (f := .free "len") rfl)
  have m_range : mg "range" = none := He.free_ok X G (c.1.fact 5 (f := .free "range") rfl)
  have m_sorted : mg "sorted" = none := He.free_ok X G (c.1.fact 6 (f := .free "sorted") rfl)
  have m_list : mg "list" = none := He.free_ok X G (c.1.fact 7 (f := .free "list") rfl)
  have m_set : mg "set" = none := He.free_ok X G (c.1.fact 8 (f := .free "set") rfl)
  have g_MAX_SIZE : ∃ t, mg "MAX_SIZE" = some (.int 6 t) := He.int_ok X G (c.1.fact 9 (f := .int "MAX_SIZE" 6) rfl)
  obtain ⟨fd_in_range, F_in_range⟩ := c.1.def_ 0 rfl
  have G_in_range := He.glo_ok X G (c.1.fact 10 (f := .glo "in_range") rfl)
  obtain ⟨fd_check_size, F_check_size⟩ := c.1.def_ 1 rfl
  have G_check_size := He.glo_ok X G (c.1.fact 11 (f := .glo "check_size") rfl)
  obtain ⟨fd_is_exchange, F_is_exchange⟩ := c.1.def_ 2 rfl
  have G_is_exchange := He.glo_ok X G (c.1.fact 12 (f := .glo "is_exchange") rfl)
  obtain ⟨fd_are_exchanges, F_are_exchanges⟩ := c.1.def_ 3 rfl
  have G_are_exchanges := He.glo_ok X G (c.1.fact 13 (f := .glo "are_exchanges") rfl)
  obtain ⟨fd_check_list, F_check_list⟩ := c.1.def_ 4 rfl
  have G_check_list := He.glo_ok X G (c.1.fact 14 (f := .glo "check_list") rfl)
  obtain ⟨fd_moved, F_moved⟩ := c.1.def_ 5 rfl
  have G_moved := He.glo_ok X G (c.1.fact 15 (f := .glo "moved") rfl)
  obtain ⟨fd_result_of, F_result_of⟩ := c.1.def_ 6 rfl
  have G_result_of := He.glo_ok X G (c.1.fact 16 (f := .glo "result_of") rfl)
  obtain ⟨fd_is_round_list, F_is_round_list⟩ := c.1.def_ 7 rfl
  have G_is_round_list := He.glo_ok X G (c.1.fact 17 (f := .glo "is_round_list") rfl)
  obtain ⟨fd_through, F_through⟩ := c.1.def_ 8 rfl
  have G_through := He.glo_ok X G (c.1.fact 18 (f := .glo "through") rfl)
  obtain ⟨fd_check_number, F_check_number⟩ := c.1.def_ 9 rfl
  have G_check_number := He.glo_ok X G (c.1.fact 19 (f := .glo "check_number") rfl)
  obtain ⟨fd_later_of, F_later_of⟩ := c.1.def_ 10 rfl
  have G_later_of := He.glo_ok X G (c.1.fact 20 (f := .glo "later_of") rfl)
  obtain ⟨fd_earlier_of, F_earlier_of⟩ := c.1.def_ 11 rfl
  have G_earlier_of := He.glo_ok X G (c.1.fact 21 (f := .glo "earlier_of") rfl)
  obtain ⟨fd_move_later, F_move_later⟩ := c.1.def_ 12 rfl
  have G_move_later := He.glo_ok X G (c.1.fact 22 (f := .glo "move_later") rfl)
  obtain ⟨fd_move_earlier, F_move_earlier⟩ := c.1.def_ 13 rfl
  have G_move_earlier := He.glo_ok X G (c.1.fact 23 (f := .glo "move_earlier") rfl)
  obtain ⟨fd_check_round, F_check_round⟩ := c.1.def_ 14 rfl
  have G_check_round := He.glo_ok X G (c.1.fact 24 (f := .glo "check_round") rfl)
  obtain ⟨fd_road, F_road⟩ := c.1.def_ 15 rfl
  have G_road := He.glo_ok X G (c.1.fact 25 (f := .glo "road") rfl)
  obtain ⟨fd__law_cell, F__law_cell⟩ := c.1.def_ 16 rfl
  have G__law_cell := He.glo_ok X G (c.1.fact 26 (f := .glo "_law_cell") rfl)
  obtain ⟨fd__law_row, F__law_row⟩ := c.1.def_ 17 rfl
  have G__law_row := He.glo_ok X G (c.1.fact 27 (f := .glo "_law_row") rfl)
  obtain ⟨fd__law_to, F__law_to⟩ := c.1.def_ 18 rfl
  have G__law_to := He.glo_ok X G (c.1.fact 28 (f := .glo "_law_to") rfl)
  obtain ⟨fd__law_result, F__law_result⟩ := c.1.def_ 19 rfl
  have G__law_result := He.glo_ok X G (c.1.fact 29 (f := .glo "_law_result") rfl)
  obtain ⟨fd__law_is_round, F__law_is_round⟩ := c.1.def_ 20 rfl
  have G__law_is_round := He.glo_ok X G (c.1.fact 30 (f := .glo "_law_is_round") rfl)
  obtain ⟨fd__law_round, F__law_round⟩ := c.1.def_ 21 rfl
  have G__law_round := He.glo_ok X G (c.1.fact 31 (f := .glo "_law_round") rfl)
  obtain ⟨fd__law_road, F__law_road⟩ := c.1.def_ 22 rfl
  have G__law_road := He.glo_ok X G (c.1.fact 32 (f := .glo "_law_road") rfl)
  obtain ⟨fd_law, F_law⟩ := c.1.def_ 23 rfl
  have G_law := He.glo_ok X G (c.1.fact 33 (f := .glo "law") rfl)
  have B_in_range : Binds K fd_in_range ["value", "low", "high"] [] := FunD.bindsN F_in_range fun _ _ _ _ _ _ us hl => match us, hl with | [_, _, _], _ => rfl
  have B_check_size : Binds K fd_check_size ["size"] [] := FunD.bindsN F_check_size fun _ _ _ _ _ _ us hl => match us, hl with | [_], _ => rfl
  have B_is_exchange : Binds K fd_is_exchange ["size", "value"] [] := FunD.bindsN F_is_exchange fun _ _ _ _ _ _ us hl => match us, hl with | [_, _], _ => rfl
  have B_are_exchanges : Binds K fd_are_exchanges ["size", "value", "most"] [] := FunD.bindsN F_are_exchanges fun _ _ _ _ _ _ us hl => match us, hl with | [_, _, _], _ => rfl
  have B_check_list : Binds K fd_check_list ["size", "row"] [] := FunD.bindsN F_check_list fun _ _ _ _ _ _ us hl => match us, hl with | [_, _], _ => rfl
  have B_moved : Binds K fd_moved ["one", "place"] [] := FunD.bindsN F_moved fun _ _ _ _ _ _ us hl => match us, hl with | [_, _], _ => rfl
  have B_result_of : Binds K fd_result_of ["size", "row"] [] := FunD.bindsN F_result_of fun _ _ _ _ _ _ us hl => match us, hl with | [_, _], _ => rfl
  have B_is_round_list : Binds K fd_is_round_list ["size", "row"] [] := FunD.bindsN F_is_round_list fun _ _ _ _ _ _ us hl => match us, hl with | [_, _], _ => rfl
  have B_through : Binds K fd_through ["one", "other"] [] := FunD.bindsN F_through fun _ _ _ _ _ _ us hl => match us, hl with | [_, _], _ => rfl
  have B_check_number : Binds K fd_check_number ["row", "number"] [] := FunD.bindsN F_check_number fun _ _ _ _ _ _ us hl => match us, hl with | [_, _], _ => rfl
  have B_later_of : Binds K fd_later_of ["row", "number"] [] := FunD.bindsN F_later_of fun _ _ _ _ _ _ us hl => match us, hl with | [_, _], _ => rfl
  have B_earlier_of : Binds K fd_earlier_of ["row", "number"] [] := FunD.bindsN F_earlier_of fun _ _ _ _ _ _ us hl => match us, hl with | [_, _], _ => rfl
  have B_move_later : Binds K fd_move_later ["size", "row", "number"] [] := FunD.bindsN F_move_later fun _ _ _ _ _ _ us hl => match us, hl with | [_, _, _], _ => rfl
  have B_move_earlier : Binds K fd_move_earlier ["size", "row", "number"] [] := FunD.bindsN F_move_earlier fun _ _ _ _ _ _ us hl => match us, hl with | [_, _, _], _ => rfl
  have B_check_round : Binds K fd_check_round ["size", "row"] [] := FunD.bindsN F_check_round fun _ _ _ _ _ _ us hl => match us, hl with | [_, _], _ => rfl
  have B_road : Binds K fd_road ["size", "row", "other"] [] := FunD.bindsN F_road fun _ _ _ _ _ _ us hl => match us, hl with | [_, _, _], _ => rfl
  have B__law_cell : Binds K fd__law_cell ["script", "k"] [] := FunD.bindsN F__law_cell fun _ _ _ _ _ _ us hl => match us, hl with | [_, _], _ => rfl
  have B__law_row : Binds K fd__law_row ["script", "at"] [] := FunD.bindsN F__law_row fun _ _ _ _ _ _ us hl => match us, hl with | [_, _], _ => rfl
  have B__law_to : Binds K fd__law_to ["one", "place"] [] := FunD.bindsN F__law_to fun _ _ _ _ _ _ us hl => match us, hl with | [_, _], _ => rfl
  have B__law_result : Binds K fd__law_result ["size", "row"] [] := FunD.bindsN F__law_result fun _ _ _ _ _ _ us hl => match us, hl with | [_, _], _ => rfl
  have B__law_is_round : Binds K fd__law_is_round ["size", "row"] [] := FunD.bindsN F__law_is_round fun _ _ _ _ _ _ us hl => match us, hl with | [_, _], _ => rfl
  have B__law_round : Binds K fd__law_round ["script", "at", "size"] [] := FunD.bindsN F__law_round fun _ _ _ _ _ _ us hl => match us, hl with | [_, _, _], _ => rfl
  have B__law_road : Binds K fd__law_road ["size", "row", "other"] [] := FunD.bindsN F__law_road fun _ _ _ _ _ _ us hl => match us, hl with | [_, _, _], _ => rfl
  have B_law : Binds K fd_law ["script"] [] := FunD.bindsN F_law fun _ _ _ _ _ _ us hl => match us, hl with | [_], _ => rfl
  have BL := FunD.bindsA (ps := ["script"]) F_law fun _ _ _ _ _ _ us hl => match us, hl with | [_], _ => rfl
  have e := hfa.symm.trans G_law
  cases e
  refine ⟨fd_law, spOf K 0 (ecOf K xsL) (run (tbOf defs) n) 0 1, fun s v => BL s [v] rfl, law_end hL, fun base _ _ => ?_⟩
  have hF : AllD (fun d => ∃ (f : Addr) (fd : FuncData), mg d.x = some (.ref f) ∧ FunD K d.x d.x (defArgs d.st) (defBody d.st) (defScope d.st) [] [] f fd ∧ Binds K fd d.ps []) defs := ⟨⟨_, fd_in_range, G_in_range, F_in_range, B_in_range⟩, ⟨_, fd_check_size, G_check_size, F_check_size, B_check_size⟩, ⟨_, fd_is_exchange, G_is_exchange, F_is_exchange, B_is_exchange⟩, ⟨_, fd_are_exchanges, G_are_exchanges, F_are_exchanges, B_are_exchanges⟩, ⟨_, fd_check_list, G_check_list, F_check_list, B_check_list⟩, ⟨_, fd_moved, G_moved, F_moved, B_moved⟩, ⟨_, fd_result_of, G_result_of, F_result_of, B_result_of⟩, ⟨_, fd_is_round_list, G_is_round_list, F_is_round_list, B_is_round_list⟩, ⟨_, fd_through, G_through, F_through, B_through⟩, ⟨_, fd_check_number, G_check_number, F_check_number, B_check_number⟩, ⟨_, fd_later_of, G_later_of, F_later_of, B_later_of⟩, ⟨_, fd_earlier_of, G_earlier_of, F_earlier_of, B_earlier_of⟩, ⟨_, fd_move_later, G_move_later, F_move_later, B_move_later⟩, ⟨_, fd_move_earlier, G_move_earlier, F_move_earlier, B_move_earlier⟩, ⟨_, fd_check_round, G_check_round, F_check_round, B_check_round⟩, ⟨_, fd_road, G_road, F_road, B_road⟩, ⟨_, fd__law_cell, G__law_cell, F__law_cell, B__law_cell⟩, ⟨_, fd__law_row, G__law_row, F__law_row, B__law_row⟩, ⟨_, fd__law_to, G__law_to, F__law_to, B__law_to⟩, ⟨_, fd__law_result, G__law_result, F__law_result, B__law_result⟩, ⟨_, fd__law_is_round, G__law_is_round, F__law_is_round, B__law_is_round⟩, ⟨_, fd__law_round, G__law_round, F__law_round, B__law_round⟩, ⟨_, fd__law_road, G__law_road, F__law_road, B__law_road⟩, ⟨_, fd_law, G_law, F_law, B_law⟩, trivial⟩
  have hS : AllD (fun d => FnScope d.N d.ps (defScope d.st) ∧ d.ps.length ≤ d.N.length ∧ ∀ i, i < d.ps.length → d.M.contains i = false) defs := ⟨⟨sc_in_range, by decide, by decide⟩, ⟨sc_check_size, by decide, by decide⟩, ⟨sc_is_exchange, by decide, by decide⟩, ⟨sc_are_exchanges, by decide, by decide⟩, ⟨sc_check_list, by decide, by decide⟩, ⟨sc_moved, by decide, by decide⟩, ⟨sc_result_of, by decide, by decide⟩, ⟨sc_is_round_list, by decide, by decide⟩, ⟨sc_through, by decide, by decide⟩, ⟨sc_check_number, by decide, by decide⟩, ⟨sc_later_of, by decide, by decide⟩, ⟨sc_earlier_of, by decide, by decide⟩, ⟨sc_move_later, by decide, by decide⟩, ⟨sc_move_earlier, by decide, by decide⟩, ⟨sc_check_round, by decide, by decide⟩, ⟨sc_road, by decide, by decide⟩, ⟨sc__law_cell, by decide, by decide⟩, ⟨sc__law_row, by decide, by decide⟩, ⟨sc__law_to, by decide, by decide⟩, ⟨sc__law_result, by decide, by decide⟩, ⟨sc__law_is_round, by decide, by decide⟩, ⟨sc__law_round, by decide, by decide⟩, ⟨sc__law_road, by decide, by decide⟩, ⟨sc_law, by decide, by decide⟩, trivial⟩
  have all := all_ok2 (P := P) (w := w) (base := base) (C := 0) (ec := ecOf K xsL) hF hS (fun c k hc => ⟨w_in_range m_isinstance m_int m_bool, w_check_size (hc 1 _ rfl) g_MAX_SIZE xa, w_is_exchange m_isinstance m_tuple m_len (hc 1 _ rfl), w_are_exchanges m_isinstance m_tuple m_len (hc 3 _ rfl), w_check_list (hc 2 _ rfl) (hc 4 _ rfl) m_len xa, w_moved, w_result_of m_range (hc 7 _ rfl) m_tuple, w_is_round_list (hc 8 _ rfl) m_tuple m_range, w_through m_tuple m_sorted (hc 7 _ rfl), w_check_number (hc 1 _ rfl) m_len xa, w_later_of (hc 50 _ rfl), w_earlier_of (hc 50 _ rfl), w_move_later (hc 5 _ rfl) (hc 51 _ rfl) (hc 52 _ rfl), w_move_earlier (hc 5 _ rfl) (hc 51 _ rfl) (hc 53 _ rfl), w_check_round (hc 5 _ rfl) (hc 10 _ rfl) xa, w_road (hc 35 _ rfl) m_range (hc 52 _ rfl) (hc 53 _ rfl), w__law_cell m_len, w__law_row (hc 28 _ rfl) m_range, w__law_to, w__law_result m_list m_range (hc 31 _ rfl) m_tuple, w__law_is_round (hc 37 _ rfl) m_tuple m_range, w__law_round (hc 29 _ rfl) m_range m_tuple m_sorted (hc 31 _ rfl), w__law_road (hc 59 _ rfl) xa m_isinstance, w_law (hc 29 _ rfl) (hc 32 _ rfl) (hc 59 _ rfl) m_range (hc 54 _ rfl) (hc 55 _ rfl) m_sorted m_set m_len (hc 38 _ rfl) (hc 60 _ rfl), trivial⟩) n 0 d_law rfl _ _ F_law
  exact all
theorem has : Has (tbOf defs) := ⟨rfl, rfl, rfl, rfl, rfl, rfl, rfl, rfl, rfl, rfl, rfl, rfl, rfl, rfl, rfl, rfl, rfl, rfl, rfl, rfl, rfl, rfl, rfl, rfl⟩
end Rx08
end Rx
section
open PySem PySem.W PySem.Calls PyProof.Rows
theorem Rx.Rx08.holds (n : Nat) (hr : L2.Room n callerA) (hL : ∀ ns : List Int, ns.length ≤ 63 → ∃ w', Rx.run (Rx.tbOf Rx.Rx08.defs) n 0 [Rx.dScript ns] [] = some (.val (.bool true), w')) : PySem.Challenge.rw_roundexchanges_k08_whole_roads.Holds := by
  w_on; o_law
  refine HandSHeadRun.head_any (r := OpenLaw.row PySem.Challenge.rw_roundexchanges_k08_whole_roads) (q := view (OpenLaw.row PySem.Challenge.rw_roundexchanges_k08_whole_roads).prog [33]) (H := Rx.Rx08.hk) (ob := Rx.Rx08.ob) (M := 4000) (loose := Rx.Rx08.loose) (d := HandSHeadRun.topDef (OpenLaw.row PySem.Challenge.rw_roundexchanges_k08_whole_roads).prog 33) (kwd := []) Rx.obX_eq
    (by kernel_rfl) (fun s => by kernel_rfl) Rx.Rx08.runs (by kernel_rfl) (by kernel_rfl) (by kernel_rfl) (by rfl) (by first | assumption | decide +kernel) (by decide +kernel) ⟨rfl, rfl, rfl, rfl, rfl, by decide +kernel⟩ ?hw ?hc
  case hw => w_witness2
  case hc =>
    refine Rx.walkX (l := PySem.Challenge.rw_roundexchanges_k08_whole_roads) (n := 63) (k := n) (x := "script") rfl (by decide) (by kernel_rfl) hr ?F
    intro w mg fa h Y G hmg0
    obtain ⟨K, KX, cc⟩ := Y
    have hmg : mg ("law" : PySem.Str) = some (.ref fa) := by
      have e : (HandSHeadRun.topDef (OpenLaw.row PySem.Challenge.rw_roundexchanges_k08_whole_roads).prog 33).name = ("law" : PySem.Str) := by kernel_rfl
      rw [← e]
      exact hmg0
    obtain ⟨fd, sp, hb, hs, hF⟩ := Rx.Rx08.facts (P := (PySem.Challenge.rw_roundexchanges_k08_whole_roads).prog) (w := w) KX G hmg cc n hL
    exact ⟨K, fd, sp, KX, hb, hs, hF⟩
end

set_option linter.all false
set_option maxRecDepth 100000
set_option autoImplicit false
namespace Rx
open PySem
/-! ### evaluating -/
section
variable (c : Cf) (r : Env) (w : Om) (a b t : Ex) (es : Exs) (A B : Sx)
@[simp] theorem e_dC (d : D) : dC d c r w = some (.val d, w) := rfl
@[simp] theorem e_dNil : dNil c r w = some (.vals [], w) := rfl
@[simp] theorem e_dVar (i : Nat) : dVar i c r w = (match r[i]? with
  | some (some d) => some (.val d, w)
  | _ => none) := rfl
@[simp] theorem e_dCons : dCons a es c r w = (match a c r w with
  | none => none
  | some (.exc x, w1) => some (.exc x, w1)
  | some (.val d, w1) => match es c r w1 with
    | none => none
    | some (.exc x, w2) => some (.exc x, w2)
    | some (.vals ds, w2) => some (.vals (d :: ds), w2)) := rfl
@[simp] theorem e_dPrim (p : Pr) : dPrim p es c r w = (match es c r w with
  | none => none
  | some (.exc x, w1) => some (.exc x, w1)
  | some (.vals ds, w1) => (prim p ds).map fun d => (.val d, w1)) := rfl
@[simp] theorem e_dCall (f : Nat) : dCall f es c r w = (match es c r w with
  | none => none
  | some (.exc x, w1) => some (.exc x, w1)
  | some (.vals ds, w1) => c f ds w1) := rfl
@[simp] theorem e_dIte : dIte t a b c r w = (match t c r w with
  | none => none
  | some (.exc x, w1) => some (.exc x, w1)
  | some (.val d, w1) => match truth d with
    | none => none
    | some true => a c r w1
    | some false => b c r w1) := rfl
@[simp] theorem e_dAnd : dAnd a b c r w = (match a c r w with
  | none => none
  | some (.exc x, w1) => some (.exc x, w1)
  | some (.val d, w1) => match truth d with
    | none => none
    | some true => b c r w1
    | some false => some (.val d, w1)) := rfl
@[simp] theorem e_dOr : dOr a b c r w = (match a c r w with
  | none => none
  | some (.exc x, w1) => some (.exc x, w1)
  | some (.val d, w1) => match truth d with
    | none => none
    | some true => some (.val d, w1)
    | some false => b c r w1) := rfl
@[simp] theorem e_dNot : dNot a c r w = (match a c r w with
  | none => none
  | some (.exc x, w1) => some (.exc x, w1)
  | some (.val d, w1) => (truth d).map fun b => (.val (.bool (!b)), w1)) := rfl
@[simp] theorem e_dMeth (p : Pr) (ok : D → Bool) : dMeth p ok a b c r w = (match a c r w with
  | none => none
  | some (.exc x, w1) => some (.exc x, w1)
  | some (.val d, w1) => if ok d = true then (match b c r w1 with
    | none => none
    | some (.exc x, w2) => some (.exc x, w2)
    | some (.val e, w2) => (prim p [d, e]).map fun v => (.val v, w2)) else none) := rfl
@[simp] theorem e_sPass : sPass c r w = some (.next r, w) := rfl
@[simp] theorem e_sRaise (k : Nat) : sRaise k c r w = some (.exc ⟨k, .none⟩ r, w) := rfl
@[simp] theorem e_sSeq : sSeq A B c r w = (match A c r w with
  | none => none
  | some (.next r1, w1) => B c r1 w1
  | some (.ret d, w1) => some (.ret d, w1)
  | some (.exc x r1, w1) => some (.exc x r1, w1)) := rfl
@[simp] theorem e_sIf : sIf t A B c r w = (match t c r w with
  | none => none
  | some (.exc x, w1) => some (.exc x r, w1)
  | some (.val d, w1) => match truth d with
    | none => none
    | some true => A c r w1
    | some false => B c r w1) := rfl
@[simp] theorem e_sRet : sRet a c r w = (match a c r w with
  | none => none
  | some (.exc x, w1) => some (.exc x r, w1)
  | some (.val d, w1) => some (.ret d, w1)) := rfl
@[simp] theorem e_sExpr : sExpr a c r w = (match a c r w with
  | none => none
  | some (.exc x, w1) => some (.exc x r, w1)
  | some (.val _, w1) => some (.next r, w1)) := rfl
@[simp] theorem e_sAsg (i : Nat) : sAsg i a c r w = (match a c r w with
  | none => none
  | some (.exc x, w1) => some (.exc x r, w1)
  | some (.val d, w1) => some (.next (r.set i (some d)), w1)) := rfl
@[simp] theorem e_sPar (is : List Nat) : sPar is es c r w = (match es c r w with
  | none => none
  | some (.exc x, w1) => some (.exc x r, w1)
  | some (.vals ds, w1) => (setAll is ds r).map fun r1 => (.next r1, w1)) := rfl
@[simp] theorem e_sAsgT (tg : Tg) : sAsgT tg a c r w = (match a c r w with
  | none => none
  | some (.exc x, w1) => some (.exc x r, w1)
  | some (.val d, w1) => (bindT tg d r).map fun r1 => (.next r1, w1)) := rfl
@[simp] theorem e_iSeq : iSeq a c r w = (match a c r w with
  | none => none
  | some (.exc x, w1) => some (.exc x, w1)
  | some (.val d, w1) => (items d).map fun ds => (.vals ds, w1)) := rfl
@[simp] theorem e_sFor (src : Exs) (tg : Tg) : sFor src tg A c r w = (match src c r w with
  | none => none
  | some (.exc x, w1) => some (.exc x r, w1)
  | some (.vals xs, w1) => forGo c tg A xs r w1) := rfl
@[simp] theorem e_dChain (p q : Pr) : dChain p q a b t c r w = (match a c r w with
  | none => none
  | some (.exc x, w1) => some (.exc x, w1)
  | some (.val da, w1) => match b c r w1 with
    | none => none
    | some (.exc x, w2) => some (.exc x, w2)
    | some (.val db, w2) => match prim p [da, db] with
      | some (.bool true) => (match t c r w2 with
        | none => none
        | some (.exc x, w3) => some (.exc x, w3)
        | some (.val de, w3) => (prim q [db, de]).map fun d => (.val d, w3))
      | some (.bool false) => some (.val (.bool false), w2)
      | _ => none) := rfl
end
section
variable (d e f : D)
@[simp] theorem p_add : prim .add [d, e] = addP d e := rfl
@[simp] theorem p_sub : prim .sub [d, e] = subP d e := rfl
@[simp] theorem p_mul : prim .mul [d, e] = mulP d e := rfl
@[simp] theorem p_fdiv : prim .fdiv [d, e] = fdivP d e := rfl
@[simp] theorem p_mod : prim .mod [d, e] = modP d e := rfl
@[simp] theorem p_pow : prim .pow [d, e] = powP d e := rfl
@[simp] theorem p_neg : prim .neg [d] = negP d := rfl
@[simp] theorem p_eq : prim .eq [d, e] = eqP d e := rfl
@[simp] theorem p_ne : prim .ne [d, e] = neP d e := rfl
@[simp] theorem p_lt (i j : Int) : prim .lt [.int i, .int j] = some (.bool (decide (i < j))) := rfl
@[simp] theorem p_le (i j : Int) : prim .le [.int i, .int j] = some (.bool (decide (i ≤ j))) := rfl
@[simp] theorem p_gt (i j : Int) : prim .gt [.int i, .int j] = some (.bool (decide (j < i))) := rfl
@[simp] theorem p_isInt : prim .isInt [d] = tstP isInt d := rfl
@[simp] theorem p_isBool : prim .isBool [d] = tstP isBool d := rfl
@[simp] theorem p_isTuple : prim .isTuple [d] = tstP isTup d := rfl
@[simp] theorem p_ix : prim .ix [d, e] = ixP d e := rfl
@[simp] theorem p_len : prim .len [d] = lenP d := rfl
@[simp] theorem p_slL : prim .slL [d, e] = slL d e := rfl
@[simp] theorem p_slH : prim .slH [d, e] = slH d e := rfl
@[simp] theorem p_tuple : prim .tuple [d] = (items d).map .tuple := rfl
@[simp] theorem p_list : prim .list [d] = (items d).map .list := rfl
@[simp] theorem p_sorted : prim .sorted [d] = sortedP d := rfl
@[simp] theorem p_tup (ds : List D) : prim .tup ds = tupP ds := rfl
@[simp] theorem p_lst (ds : List D) : prim .lst ds = lstP ds := rfl
@[simp] theorem p_tuplex : prim .tuplex [d] = tupxP d := rfl
@[simp] theorem p_max1 : prim .max1 [d] = max1P d := rfl
@[simp] theorem p_int : prim .int [d] = intP d := rfl
@[simp] theorem p_isN : prim .isN [d] = tstP isNone d := rfl
@[simp] theorem p_rng1 : prim .rng1 [d] = rng1P d := rfl
@[simp] theorem p_rng2 : prim .rng2 [d, e] = rng2P d e := rfl
end
@[simp] theorem addP_int (i j : Int) : addP (.int i) (.int j) = some (.int (i + j)) := rfl
@[simp] theorem subP_int (i j : Int) : subP (.int i) (.int j) = some (.int (i - j)) := rfl
@[simp] theorem truth_bool (b : Bool) : truth (.bool b) = some b := rfl
@[simp] theorem truth_list (ds : List D) : truth (.list ds) = some (!ds.isEmpty) := rfl
@[simp] theorem eqP_int (i j : Int) : eqP (.int i) (.int j) = some (.bool (decide (i = j))) := by
  simp [eqP, norm, eqOk, plain, shal, eqd]
  rfl
@[simp] theorem neP_int (i j : Int) : neP (.int i) (.int j) = some (.bool (!decide (i = j))) := by
  simp [neP, norm, eqOk, plain, shal, eqd]
  rfl
@[simp] theorem items_list (ds : List D) : items (.list ds) = some ds := rfl
@[simp] theorem items_tuple (ds : List D) : items (.tuple ds) = some ds := rfl
def pr (p : Int × Int) : D := .tuple [.int p.1, .int p.2]
@[simp] theorem ix_pr0 (p : Int × Int) : ixP (pr p) (.int 0) = some (.int p.1) := rfl
@[simp] theorem ix_pr1 (p : Int × Int) : ixP (pr p) (.int 1) = some (.int p.2) := rfl
def mv (p : Int × Int) (x : Int) : Int := if x = p.1 then p.2 else if x = p.2 then p.1 else x
theorem run_at {T : Tb} {n f : Nat} {ds : List D} {w : Om} {F : Fd} (h : T f = some F) (hl : ds.length = F.params) (hs : F.params ≤ F.slots) : run T (n + 1) f ds w = fin (F.body (run T n) (ds.map some ++ List.replicate (F.slots - F.params) none) w) := by
  rw [run, h]
  simp only [hl, hs, and_self, if_true]
theorem moved_ok {T : Tb} (h : T i_moved = some f_moved) (n : Nat) (p : Int × Int) (x : Int) (w : Om) : run T (n + 1) i_moved [pr p, .int x] w = some (.val (.int (mv p x)), w) := by
  rw [run_at h rfl (by decide)]
  by_cases h1 : x = p.1
  · subst h1; simp [f_moved, b_moved, fin, mv]
  · by_cases h2 : x = p.2
    · subst h2; simp [f_moved, b_moved, fin, mv, h1]
    · simp [f_moved, b_moved, fin, mv, h1, h2]
theorem lto_ok {T : Tb} (h : T i__law_to = some f__law_to) (n : Nat) (p : Int × Int) (x : Int) (w : Om) : run T (n + 1) i__law_to [pr p, .int x] w = some (.val (.int (mv p x)), w) := by
  rw [run_at h rfl (by decide)]
  by_cases h1 : x = p.1
  · subst h1; simp [f__law_to, b__law_to, fin, mv]
  · by_cases h2 : x = p.2
    · subst h2; simp [f__law_to, b__law_to, fin, mv, h1]
    · simp [f__law_to, b__law_to, fin, mv, h1, h2]
/-! ### loops and comprehensions -/
section
variable {α σ : Type} {c : Cf} {w : Om} {tg : Tg} {body : Sx}
theorem for_fold (env : σ → Env) (f : σ → α → σ) (dat : α → D) : ∀ (xs : List α) (s : σ), (∀ s, ∀ x ∈ xs, ∃ r1, bindT tg (dat x) (env s) = some r1 ∧ body c r1 w = some (.next (env (f s x)), w)) → forGo c tg body (xs.map dat) (env s) w = some (.next (env (xs.foldl f s)), w)
  | [], s, _ => rfl
  | x :: xs, s, h => by
    obtain ⟨r1, e1, e2⟩ := h s x (.head _)
    rw [List.map_cons, forGo, e1]
    simp only
    rw [e2]
    simp only
    rw [for_fold env f dat xs (f s x) fun s y hy => h s y (.tail _ hy)]
    rfl
/-- .. with what holds at each turn -/
theorem for_inv (env : σ → Env) (P : Nat → σ → Prop) (dat : α → D) : ∀ (xs : List α) (i : Nat) (s : σ), P i s → (∀ j s x, P j s → xs[j - i]? = some x → i ≤ j → ∃ r1 s', bindT tg (dat x) (env s) = some r1 ∧ body c r1 w = some (.next (env s'), w) ∧ P (j + 1) s') →
    ∃ s', forGo c tg body (xs.map dat) (env s) w = some (.next (env s'), w) ∧ P (i + xs.length) s'
  | [], i, s, p, _ => ⟨s, rfl, p⟩
  | x :: xs, i, s, p, h => by
    obtain ⟨r1, s1, e1, e2, p1⟩ := h i s x p (by simp) (Nat.le_refl _)
    obtain ⟨s2, e3, p2⟩ := for_inv env P dat xs (i + 1) s1 p1 fun j s y pj hy hj => h j s y pj (by
      have : j - i = (j - (i + 1)) + 1 := by omega
      rw [this]; simpa using hy) (by omega)
    refine ⟨s2, ?_, by rw [List.length_cons, show i + (xs.length + 1) = i + 1 + xs.length by omega]; exact p2⟩
    rw [List.map_cons, forGo, e1]
    simp only
    rw [e2]
    simp only
    exact e3
theorem comp_filter {r : Env} {t elt : Ex} (p : α → Bool) (g : α → D) (dat : α → D) : ∀ (xs : List α), (∀ x ∈ xs, ∃ r1, bindT tg (dat x) r = some r1 ∧ t c r1 w = some (.val (.bool (p x)), w) ∧ (p x = true → elt c r1 w = some (.val (g x), w) ∧ plain (g x) = true)) →
    compGo c r tg (some t) (one elt) (xs.map dat) w = some ((xs.filter p).map g, w)
  | [], _ => rfl
  | x :: xs, h => by
    obtain ⟨r1, e1, e2, e3⟩ := h x (.head _)
    have ih := comp_filter p g dat xs fun y hy => h y (.tail _ hy)
    rw [List.map_cons, compGo, e1]
    simp only [e2, truth_bool, Option.map_some]
    cases hp : p x with
    | false => simp only; rw [ih, List.filter_cons, hp]; rfl
    | true =>
      obtain ⟨e4, e5⟩ := e3 hp
      have e6 : one elt c r1 w = some ([g x], w) := by unfold one; rw [e4]; simp only [e5, if_true]
      simp only [e6, ih, Option.map_some]
      rw [List.filter_cons, hp]; rfl
theorem comp_map {r : Env} {elt : Ex} (g : α → D) (dat : α → D) : ∀ (xs : List α), (∀ x ∈ xs, ∃ r1, bindT tg (dat x) r = some r1 ∧ elt c r1 w = some (.val (g x), w) ∧ plain (g x) = true) →
    compGo c r tg none (one elt) (xs.map dat) w = some (xs.map g, w)
  | [], _ => rfl
  | x :: xs, h => by
    obtain ⟨r1, e1, e4, e5⟩ := h x (.head _)
    have ih := comp_map g dat xs fun y hy => h y (.tail _ hy)
    rw [List.map_cons, compGo, e1]
    have e6 : one elt c r1 w = some ([g x], w) := by unfold one; rw [e4]; simp only [e5, if_true]
    simp only [e6, ih, Option.map_some]
    rfl
theorem dComp_map {r : Env} {src : Exs} {elt : Ex} {own : List Nat} (g : α → D) (dat : α → D) (xs : List α) (hs : src c r w = some (.vals (xs.map dat), w)) (h : ∀ x ∈ xs, ∃ r1, bindT tg (dat x) (wipeR r own) = some r1 ∧ elt c r1 w = some (.val (g x), w) ∧ plain (g x) = true) (hl : xs.length ≤ zL) :
    dComp src tg none elt own c r w = some (.val (.list (xs.map g)), w) := by
  unfold dComp
  rw [hs]
  simp only
  rw [comp_map g dat xs h]
  simp only [List.length_map, hl, if_true]
theorem dComp_filter {r : Env} {src : Exs} {t elt : Ex} {own : List Nat} (p : α → Bool) (g : α → D) (dat : α → D) (xs : List α) (hs : src c r w = some (.vals (xs.map dat), w)) (h : ∀ x ∈ xs, ∃ r1, bindT tg (dat x) (wipeR r own) = some r1 ∧ t c r1 w = some (.val (.bool (p x)), w) ∧ (p x = true → elt c r1 w = some (.val (g x), w) ∧ plain (g x) = true)) (hl : xs.length ≤ zL) :
    dComp src tg (some t) elt own c r w = some (.val (.list ((xs.filter p).map g)), w) := by
  unfold dComp
  rw [hs]
  simp only
  rw [comp_filter p g dat xs h]
  have : ((xs.filter p).map g).length ≤ zL := by rw [List.length_map]; exact Nat.le_trans (List.length_filter_le _ _) hl
  simp only [this, if_true]
end
@[simp] theorem e_iRng1 (c : Cf) (r : Env) (w : Om) (a : Ex) (j : Int) (h : a c r w = some (.val (.int j), w)) (hj : inR j = true) : iRng (dCons a dNil) c r w = some (.vals (rangeD 0 j), w) := by
  simp [iRng, h, hj]
theorem e_iRng2 (c : Cf) (r : Env) (w : Om) (a b : Ex) (i j : Int) (h : a c r w = some (.val (.int i), w)) (h2 : b c r w = some (.val (.int j), w)) (hi : inR i = true) (hj : inR j = true) : iRng (dCons a (dCons b dNil)) c r w = some (.vals (rangeD i j), w) := by
  simp [iRng, h, h2, hi, hj]
theorem rangeD_map (lo hi : Int) : rangeD lo hi = ((List.range (hi - lo).toNat).map fun i => lo + (i : Nat)).map .int := by
  unfold rangeD; rw [List.map_map]; rfl
theorem for_rng {σ : Type} {c : Cf} {w : Om} {tg : Tg} {body : Sx} (env : σ → Env) (P : Nat → σ → Prop) (lo hi : Int) (s : σ) (p0 : P 0 s)
    (h : ∀ (j : Nat) (s : σ), P j s → (j : Int) < hi - lo → ∃ r1 s', bindT tg (.int (lo + (j : Nat))) (env s) = some r1 ∧ body c r1 w = some (.next (env s'), w) ∧ P (j + 1) s') :
    ∃ s', forGo c tg body (rangeD lo hi) (env s) w = some (.next (env s'), w) ∧ P (hi - lo).toNat s' := by
  have q := for_inv (c := c) (w := w) (tg := tg) (body := body) env P (fun i : Nat => .int (lo + (i : Nat))) (List.range (hi - lo).toNat) 0 s p0 fun j s x pj hx _ => by
    rw [Nat.sub_zero] at hx
    have hj : j < (hi - lo).toNat := by
      have := (List.getElem?_eq_some_iff.mp hx).1
      simpa using this
    rw [List.getElem?_range hj] at hx
    cases hx
    exact h j s pj (by omega)
  simpa [rangeD] using q
/-! ### equal data -/
mutual
theorem eqd_self : ∀ (n : Nat) (d : D), shal n d = true → eqd d d = true
  | _, .none, _ => rfl
  | _, .bool b, _ => by simp [eqd]
  | _, .int i, _ => by simp [eqd]
  | _, .str x, _ => by simp [eqd]
  | 0, .list _, h => by simp [shal] at h
  | 0, .tuple _, h => by simp [shal] at h
  | n + 1, .list ds, h => by rw [eqd]; rw [shal] at h; exact eqdAll_self n ds (List.all_eq_true.mp h)
  | n + 1, .tuple ds, h => by rw [eqd]; rw [shal] at h; exact eqdAll_self n ds (List.all_eq_true.mp h)
  | 0, .dict _, h => by simp [shal] at h
  | n + 1, .dict _, h => by simp [shal] at h
theorem eqdAll_self : ∀ (n : Nat) (ds : List D), (∀ d ∈ ds, shal n d = true) → eqdAll ds ds = true
  | _, [], _ => rfl
  | n, d :: ds, h => by rw [eqdAll, eqd_self n d (h d (.head _)), eqdAll_self n ds fun e he => h e (.tail _ he)]; rfl
end
theorem shal_pl {n : Nat} {d : D} (h : shal n d = true) : plain d = true := by
  cases d <;> first | rfl | (cases n <;> simp [shal] at h)
theorem norm_pl {d : D} (h : plain d = true) : norm d = d := by
  cases d <;> first | rfl | cases h
theorem eqP_self {d : D} (h : shal 8 d = true) : eqP d d = some (.bool true) := by
  unfold eqP eqOk; rw [norm_pl (shal_pl h), shal_pl h, h, eqd_self 8 d h]; rfl
theorem neP_self {d : D} (h : shal 8 d = true) : neP d d = some (.bool false) := by
  unfold neP eqOk; rw [norm_pl (shal_pl h), shal_pl h, h, eqd_self 8 d h]; rfl
/-! ### rows -/
def dR (r : List (Int × Int)) : D := .tuple (r.map pr)
theorem shal_pr (n : Nat) (p : Int × Int) : shal (n + 1) (pr p) = true := by simp [shal, pr]
theorem shal_dR (n : Nat) (r : List (Int × Int)) : shal (n + 2) (dR r) = true := by
  unfold dR; rw [shal, List.all_eq_true]
  intro d hd
  obtain ⟨p, _, rfl⟩ := List.mem_map.mp hd
  exact shal_pr n p
def Ok (s : Int) (p : Int × Int) : Prop := 0 ≤ p.1 ∧ p.1 < p.2 ∧ p.2 < s
instance (s : Int) (p : Int × Int) : Decidable (Ok s p) := by unfold Ok; infer_instance
def OkR (s : Int) (r : List (Int × Int)) : Prop := ∀ p ∈ r, Ok s p
def sem (r : List (Int × Int)) (x : Int) : Int := r.foldl (fun x p => mv p x) x
def cj (q p : Int × Int) : Int × Int := if mv q p.1 ≤ mv q p.2 then (mv q p.1, mv q p.2) else (mv q p.2, mv q p.1)
theorem led_int (a b : Int) : led (.int a) (.int b) = decide (a ≤ b) := by
  unfold led ltd
  rw [show ltK (kt (.int b)) (kt (.int a)) = decide (b < a) by simp [kt, ltK, ltI]]
  by_cases h : a ≤ b
  · rw [decide_eq_true h, decide_eq_false (by omega)]; rfl
  · rw [decide_eq_false h, decide_eq_true (by omega)]; rfl
theorem sorted2 (a b : Int) : sortedP (.list [.int a, .int b]) = some (.list (if a ≤ b then [.int a, .int b] else [.int b, .int a])) := by
  have : srtOk [.int a, .int b] = true := rfl
  simp [sortedP, this, isort, ins, led_int]
end Rx

set_option linter.all false
set_option maxRecDepth 100000
set_option autoImplicit false
namespace Rx
open PySem
section
variable {T : Tb} {n : Nat} {w : Om}
/-! ### checks -/
theorem inr_int (h : T i_in_range = some f_in_range) (i lo hi : Int) : run T (n + 1) i_in_range [.int i, .int lo, .int hi] w = some (.val (.bool (decide (lo ≤ i ∧ i ≤ hi))), w) := by
  rw [run_at h rfl (by decide)]
  by_cases h1 : lo ≤ i
  · by_cases h2 : i ≤ hi <;> simp [f_in_range, b_in_range, fin, tstP, plain, isInt, isBool, h1, h2]
  · simp [f_in_range, b_in_range, fin, tstP, plain, isInt, isBool, h1]
theorem inr_bool (h : T i_in_range = some f_in_range) (b : Bool) (lo hi : Int) : run T (n + 1) i_in_range [.bool b, .int lo, .int hi] w = some (.val (.bool false), w) := by
  rw [run_at h rfl (by decide)]
  simp [f_in_range, b_in_range, fin, tstP, plain, isInt, isBool]
theorem inr_none (h : T i_in_range = some f_in_range) (lo hi : Int) : run T (n + 1) i_in_range [.none, .int lo, .int hi] w = some (.val (.bool false), w) := by
  rw [run_at h rfl (by decide)]
  simp [f_in_range, b_in_range, fin, tstP, plain, isInt, isBool]
theorem csize_ok (h : T i_in_range = some f_in_range) (h2 : T i_check_size = some f_check_size) (s : Int) (hs : 2 ≤ s ∧ s ≤ 6) : run T (n + 2) i_check_size [.int s] w = some (.val .none, w) := by
  rw [run_at h2 rfl (by decide)]
  simp [f_check_size, b_check_size, fin, inr_int h, hs]
theorem isx_ok (h : T i_in_range = some f_in_range) (h2 : T i_is_exchange = some f_is_exchange) (s : Int) (p : Int × Int) : run T (n + 2) i_is_exchange [.int s, pr p] w = some (.val (.bool (decide (Ok s p))), w) := by
  rw [run_at h2 rfl (by decide)]
  have e1 : tstP isTup (pr p) = some (.bool true) := rfl
  have e2 : lenP (pr p) = some (.int 2) := rfl
  by_cases h1 : 0 ≤ p.1 ∧ p.1 ≤ s - 1
  · by_cases h3 : Ok s p
    · have h4 : p.1 + 1 ≤ p.2 ∧ p.2 ≤ s - 1 := by unfold Ok at h3; omega
      simp [f_is_exchange, b_is_exchange, fin, inr_int h, e1, e2, h1, h3, h4]
    · have h4 : ¬ (p.1 + 1 ≤ p.2 ∧ p.2 ≤ s - 1) := by unfold Ok at h3; omega
      simp only [not_and] at h4
      by_cases h5 : p.1 + 1 ≤ p.2
      · simp [f_is_exchange, b_is_exchange, fin, inr_int h, e1, e2, h1, h3, h4 h5]
      · simp [f_is_exchange, b_is_exchange, fin, inr_int h, e1, e2, h1, h3, h5]
  · have h3 : ¬ Ok s p := by unfold Ok; omega
    simp only [not_and] at h1
    by_cases h5 : 0 ≤ p.1
    · simp [f_is_exchange, b_is_exchange, fin, inr_int h, e1, e2, h1 h5, h3]
    · simp [f_is_exchange, b_is_exchange, fin, inr_int h, e1, e2, h5, h3]
theorem lenP_dR (r : List (Int × Int)) : lenP (dR r) = some (.int r.length) := by simp [lenP, dR]
theorem arex_ok (h : T i_in_range = some f_in_range) (h2 : T i_is_exchange = some f_is_exchange) (h3 : T i_are_exchanges = some f_are_exchanges) (s m : Int) (r : List (Int × Int)) (ok : OkR s r) (hl : (r.length : Int) ≤ m) (hz : r.length ≤ zL) :
    run T (n + 3) i_are_exchanges [.int s, dR r, .int m] w = some (.val (.bool true), w) := by
  rw [run_at h3 rfl (by decide)]
  have e1 : tstP isTup (dR r) = some (.bool true) := rfl
  have hc : dComp (iSeq (dVar 1)) (.nm 3) (some (dNot (dCall 3 (dCons (dVar 0) (dCons (dVar 3) dNil))))) (dVar 3) [3] (run T (n + 2)) [some (.int s), some (dR r), some (.int m), none] w = some (.val (.list []), w) := by
    rw [dComp_filter (fun p => !decide (Ok s p)) pr pr r (by simp [dR]) (fun p hp => ⟨_, rfl, by simp [wipeR, isx_ok h h2], fun _ => ⟨by simp [wipeR], rfl⟩⟩) hz]
    have : r.filter (fun p => !decide (Ok s p)) = [] := by
      rw [List.filter_eq_nil_iff]
      intro p hp
      simp [ok p hp]
    rw [this]
    rfl
  have h4 : ¬ (m < (r.length : Int)) := by omega
  simp [f_are_exchanges, b_are_exchanges, fin, e1, lenP_dR, h4, hc]
theorem clist_ok (h : T i_in_range = some f_in_range) (h1 : T i_check_size = some f_check_size) (h2 : T i_is_exchange = some f_is_exchange) (h3 : T i_are_exchanges = some f_are_exchanges) (h4 : T i_check_list = some f_check_list) (s : Int) (hs : 2 ≤ s ∧ s ≤ 6) (r : List (Int × Int)) (ok : OkR s r) (hl : (r.length : Int) = s - 1) :
    run T (n + 4) i_check_list [.int s, dR r] w = some (.val .none, w) := by
  rw [run_at h4 rfl (by decide)]
  have hz : r.length ≤ zL := by unfold zL; omega
  simp [f_check_list, b_check_list, fin, csize_ok h h1 s hs, arex_ok h h2 h3 s (s - 1) r ok (by omega) hz, lenP_dR, hl]
/-! ### what a list does -/
theorem sem_cons (p : Int × Int) (r : List (Int × Int)) (x : Int) : sem (p :: r) x = sem r (mv p x) := rfl
theorem sem_app (r q : List (Int × Int)) (x : Int) : sem (r ++ q) x = sem q (sem r x) := by unfold sem; rw [List.foldl_append]
def resL (s : Int) (r : List (Int × Int)) : List Int := (List.range s.toNat).map fun i => sem r (i : Nat)
theorem inner_for (h : T i_moved = some f_moved) (s : D) (rd : D) (acc : D) (st : D) : ∀ (r : List (Int × Int)) (x : Int) (o : Option D), ∃ o', forGo (run T (n + 1)) (.nm 5) (sAsg 4 (dCall 7 (dCons (dVar 5) (dCons (dVar 4) dNil)))) (r.map pr) [some s, some rd, some acc, some st, some (.int x), o] w = some (.next [some s, some rd, some acc, some st, some (.int (sem r x)), o'], w)
  | [], x, o => ⟨o, rfl⟩
  | p :: r, x, o => by
    obtain ⟨o', e⟩ := inner_for h s rd acc st r (mv p x) (some (pr p))
    refine ⟨o', ?_⟩
    rw [List.map_cons, forGo]
    simp [bindT, moved_ok h]
    exact e
theorem result_ok (h : T i_moved = some f_moved) (h2 : T i_result_of = some f_result_of) (s : Int) (hs : 0 ≤ s ∧ s ≤ 1000) (r : List (Int × Int)) :
    run T (n + 2) i_result_of [.int s, dR r] w = some (.val (dX (resL s r)), w) := by
  rw [run_at h2 rfl (by decide)]
  obtain ⟨st, e, p⟩ := for_rng (c := run T (n + 1)) (w := w) (tg := .nm 3) (body := sSeq (sAsg 4 (dVar 3)) (sSeq (sFor (iSeq (dVar 1)) (.nm 5) (sAsg 4 (dCall 7 (dCons (dVar 5) (dCons (dVar 4) dNil))))) (sAppend 2 (dVar 4))))
    (σ := List Int × Option D × Option D × Option D) (fun st => [some (.int s), some (dR r), some (.list (st.1.map .int)), st.2.1, st.2.2.1, st.2.2.2]) (fun j st => st.1 = (List.range j).map fun i => sem r (i : Nat)) 0 s ([], none, none, none) rfl
    (fun j st hp hj => by
      obtain ⟨acc, o3, o4, o5⟩ := st
      simp only at hp
      obtain ⟨o', e⟩ := inner_for (T := T) (n := n) (w := w) h (.int s) (dR r) (.list (acc.map .int)) (.int (0 + (j : Nat))) r (0 + (j : Nat)) o5
      refine ⟨_, (acc ++ [sem r (0 + (j : Nat))], some (.int (0 + (j : Nat))), some (.int (sem r (0 + (j : Nat)))), o'), rfl, ?_, ?_⟩
      · have hz : acc.length < zL := by rw [hp, List.length_map, List.length_range]; unfold zL; omega
        simp only [Int.zero_add] at e
        simp [dR, plain]
        simp [dR] at e
        simp [e, sAppend, hz, plain]
      · simp only [hp, List.range_succ, List.map_append, Int.zero_add]; rfl)
  have hi : inR s = true := by unfold inR; simp; omega
  have hr : (s - 0).toNat = s.toNat := by rw [Int.sub_zero]
  rw [hr] at p
  have e2 : iRng (dCons (dVar 0) dNil) (run T (n + 1)) [some (.int s), some (dR r), some (.list []), none, none, none] w = some (.vals (rangeD 0 s), w) := e_iRng1 _ _ _ _ _ (by simp) hi
  simp only [List.map_nil] at e
  simp [f_result_of, b_result_of, fin, lstP, zL, e2, e, p, resL, tupxP]
  rw [show (List.map (PyData.int ∘ fun i : Nat => sem r (i : Int)) (List.range s.toNat)) = ((List.range s.toNat).map fun i : Nat => sem r (i : Int)).map .int by rw [List.map_map], intsOf_map]
  rfl
end
end Rx

set_option linter.all false
set_option maxRecDepth 100000
set_option autoImplicit false
namespace Rx
open PySem
/-! ### lists of ints, compared -/
theorem eqd_ints : ∀ xs ys : List Int, eqdAll (xs.map .int) (ys.map .int) = decide (xs = ys)
  | [], [] => rfl
  | [], y :: ys => by simp [eqdAll]
  | x :: xs, [] => by simp [eqdAll]
  | x :: xs, y :: ys => by
    rw [List.map_cons, List.map_cons, eqdAll, eqd_ints xs ys]
    by_cases h1 : x = y
    · by_cases h2 : xs = ys <;> simp [eqd, h1, h2]
    · simp [eqd, h1]
theorem shal_ints (n : Nat) (xs : List Int) : shal (n + 1) (.tuple (xs.map .int)) = true := by
  rw [shal, List.all_eq_true]
  intro d hd
  obtain ⟨x, _, rfl⟩ := List.mem_map.mp hd
  simp [shal]
theorem eqP_ints (xs ys : List Int) : eqP (.tuple (xs.map .int)) (.tuple (ys.map .int)) = some (.bool (decide (xs = ys))) := by
  unfold eqP eqOk
  rw [show norm (.tuple (xs.map .int)) = .tuple (xs.map .int) from rfl, show norm (.tuple (ys.map .int)) = .tuple (ys.map .int) from rfl, shal_ints 7 xs]
  simp only [plain, Bool.and_self, Bool.true_or, if_true]
  rw [eqd, eqd_ints]
theorem neP_ints (xs ys : List Int) : neP (.tuple (xs.map .int)) (.tuple (ys.map .int)) = some (.bool (!decide (xs = ys))) := by
  unfold neP eqOk
  rw [show norm (.tuple (xs.map .int)) = .tuple (xs.map .int) from rfl, show norm (.tuple (ys.map .int)) = .tuple (ys.map .int) from rfl, shal_ints 7 xs]
  simp only [plain, Bool.and_self, Bool.true_or, if_true]
  rw [eqd, eqd_ints]
theorem norm_dX (xs : List Int) : norm (dX xs) = .tuple (xs.map .int) := rfl
theorem norm_tup (xs : List D) : norm (.tuple xs) = .tuple xs := rfl
theorem eqP_X (xs ys : List Int) : eqP (dX xs) (.tuple (ys.map .int)) = some (.bool (decide (xs = ys))) := by
  have := eqP_ints xs ys
  unfold eqP at this ⊢
  rw [norm_dX]
  exact this
theorem neP_X (xs ys : List Int) : neP (dX xs) (.tuple (ys.map .int)) = some (.bool (!decide (xs = ys))) := by
  have := neP_ints xs ys
  unfold neP at this ⊢
  rw [norm_dX]
  exact this
def cyc (s : Int) : List Int := ((List.range (s - 1).toNat).map fun i => 1 + ((i : Nat) : Int)) ++ [0]
section
variable {T : Tb} {n : Nat} {w : Om}
theorem rndl_ok (h : T i_moved = some f_moved) (h2 : T i_result_of = some f_result_of) (h3 : T i_is_round_list = some f_is_round_list) (s : Int) (hs : 0 ≤ s ∧ s ≤ 1000) (r : List (Int × Int)) :
    run T (n + 3) i_is_round_list [.int s, dR r] w = some (.val (.bool (decide (resL s r = cyc s))), w) := by
  rw [run_at h3 rfl (by decide)]
  have hi : inR s = true := by unfold inR; simp; omega
  have e1 : rng2P (.int 1) (.int s) = some (.list (rangeD 1 s)) := by
    have : (inR 1 && inR s && decide (s - 1 ≤ (zL : Int))) = true := by
      have h9 : s - 1 ≤ (zL : Int) := by unfold zL; omega
      rw [hi, decide_eq_true h9]; rfl
    simp only [rng2P, this, if_true]
  have e3 : tupP [.int 0] = some (.tuple [.int 0]) := rfl
  have e4 : addP (.tuple (rangeD 1 s)) (.tuple [.int 0]) = some (.tuple ((cyc s).map .int)) := by
    have : (rangeD 1 s).length + 1 ≤ zL := by
      unfold rangeD; rw [List.length_map, List.length_range]; unfold zL; omega
    simp only [addP, List.length_cons, List.length_nil, Nat.zero_add, this, if_true]
    unfold cyc rangeD
    simp [List.map_append, List.map_map]
  simp [f_is_round_list, b_is_round_list, fin, result_ok h h2 s hs, e1, e3, e4, eqP_X]
theorem isrnd_ok (h : T i_in_range = some f_in_range) (h1 : T i_check_size = some f_check_size) (h2 : T i_is_exchange = some f_is_exchange) (h3 : T i_are_exchanges = some f_are_exchanges) (h4 : T i_check_list = some f_check_list) (h5 : T i_moved = some f_moved) (h6 : T i_result_of = some f_result_of) (h7 : T i_is_round_list = some f_is_round_list) (h8 : T i_is_round = some f_is_round)
    (s : Int) (hs : 2 ≤ s ∧ s ≤ 6) (r : List (Int × Int)) (ok : OkR s r) (hl : (r.length : Int) = s - 1) :
    run T (n + 5) i_is_round [.int s, dR r] w = some (.val (.bool (decide (resL s r = cyc s))), w) := by
  rw [run_at h8 rfl (by decide)]
  simp [f_is_round, b_is_round, fin, clist_ok h h1 h2 h3 h4 s hs r ok hl, rndl_ok h5 h6 h7 s (by omega) r]
/-- tuple(sorted([f(q, x) for x in p])) where f is what moves -/
theorem srt_pr (a b : Int) : sortedP (.list [.int a, .int b]) = some (.list ([if a ≤ b then (a, b) else (b, a)].flatMap fun q => [.int q.1, .int q.2])) := by
  rw [sorted2]
  by_cases h : a ≤ b <;> simp [h]
theorem cj_of (a b : Int) : (items (.list ([if a ≤ b then (a, b) else (b, a)].flatMap fun q => [.int q.1, .int q.2]))).map PyData.tuple = some (pr (if a ≤ b then (a, b) else (b, a))) := by
  by_cases h : a ≤ b <;> simp [h, pr]
theorem cj_comp {c : Cf} {r : Env} {f : Nat} {q p : Int × Int} {i j k : Nat} (hf : ∀ x : Int, c f [pr q, .int x] w = some (.val (.int (mv q x)), w)) (hr : r[i]? = some (some (pr q))) (hp : r[j]? = some (some (pr p))) (hk : k < r.length) (hki : i ≠ k) :
    dPrim .tuple (dCons (dPrim .sorted (dCons (dComp (iSeq (dVar j)) (.nm k) none (dCall f (dCons (dVar i) (dCons (dVar k) dNil))) [k]) dNil)) dNil) c r w = some (.val (pr (cj q p)), w) := by
  have hc : dComp (iSeq (dVar j)) (.nm k) none (dCall f (dCons (dVar i) (dCons (dVar k) dNil))) [k] c r w = some (.val (.list [.int (mv q p.1), .int (mv q p.2)]), w) := by
    rw [dComp_map (fun x => .int (mv q x)) .int [p.1, p.2] (by simp [hp]; rfl) (fun x hx => ⟨_, rfl, ?_, rfl⟩) (show 2 ≤ zL by decide)]
    · rfl
    · have hk2 : k < ((r.set k none)).length := by rw [List.length_set]; exact hk
      have e1 : ((r.set k none).set k (some (.int x)))[i]? = some (some (pr q)) := by
        rw [List.getElem?_set_ne (fun z => hki z.symm), List.getElem?_set_ne (fun z => hki z.symm)]; exact hr
      have e2 : ((r.set k none).set k (some (.int x)))[k]? = some (some (.int x)) := List.getElem?_set_self hk2
      simp only [wipeR, e_dCall, e_dCons, e_dVar, e_dNil, e1, e2, hf]
  simp only [e_dPrim, e_dCons, e_dNil, hc, p_sorted, srt_pr, Option.map_some, p_tuple, cj_of]
  rfl
theorem thr_ok (h : T i_moved = some f_moved) (h2 : T i_through = some f_through) (q p : Int × Int) : run T (n + 2) i_through [pr q, pr p] w = some (.val (pr (cj q p)), w) := by
  rw [run_at h2 rfl (by decide)]
  simp only [f_through, b_through, List.map_cons, List.map_nil, List.cons_append, List.nil_append]
  rw [e_sRet, cj_comp (q := q) (p := p) (fun x => moved_ok h n q x w) rfl rfl (show 2 < 3 by decide) (by decide)]
  rfl
end
/-! ### parts of rows -/
theorem ixAt_nat {m k : Nat} (h : k < m) : ixAt m (k : Nat) = some k := by
  unfold ixAt
  rw [if_pos (by omega), if_pos (by omega)]
  simp
theorem ix_at {xs : List D} {k : Nat} {d : D} (h : xs[k]? = some d) : ixP (.tuple xs) (.int (k : Nat)) = some d := by
  have hk := (List.getElem?_eq_some_iff.mp h).1
  simp only [ixP, ixAt_nat hk, Option.bind_some, h]
theorem ixL_at {xs : List D} {k : Nat} {d : D} (h : xs[k]? = some d) : ixP (.list xs) (.int (k : Nat)) = some d := by
  have hk := (List.getElem?_eq_some_iff.mp h).1
  simp only [ixP, ixAt_nat hk, Option.bind_some, h]
theorem slH_nat (xs : List D) (k : Nat) : slH (.tuple xs) (.int (k : Nat)) = some (.tuple (xs.take k)) := by
  simp only [slH, slP, cut, clip]
  rw [if_neg (by omega)]
  simp
theorem slL_nat (xs : List D) (k : Nat) : slL (.tuple xs) (.int (k : Nat)) = some (.tuple (xs.drop k)) := by
  simp only [slL, slP, cut, clip]
  rw [if_neg (by omega)]
  simp only [Int.toNat_natCast]
  by_cases h : k ≤ xs.length
  · rw [Nat.min_eq_left h, List.take_of_length_le (by rw [List.length_drop]; exact Nat.le_refl _)]
  · rw [Nat.min_eq_right (by omega), List.drop_of_length_le (Nat.le_refl _), List.drop_of_length_le (by omega), List.take_nil]
theorem add_tup (xs ys : List D) (h : xs.length + ys.length ≤ zL) : addP (.tuple xs) (.tuple ys) = some (.tuple (xs ++ ys)) := by
  simp only [addP, h, if_true]
end Rx

set_option linter.all false
set_option maxRecDepth 100000
set_option autoImplicit false
namespace Rx
open PySem
/-! ### moving one past another -/
theorem mv_mv {q : Int × Int} (h : q.1 ≠ q.2) (x : Int) : mv q (mv q x) = x := by
  unfold mv
  by_cases h1 : x = q.1
  · subst h1; simp [h.symm]
  · by_cases h2 : x = q.2
    · subst h2; simp [h1]
    · simp [h1, h2]
theorem mv_inj {q : Int × Int} (h : q.1 ≠ q.2) {x y : Int} (e : mv q x = mv q y) : x = y := by rw [← mv_mv h x, e, mv_mv h y]
theorem mv_in {s : Int} {q : Int × Int} (h : Ok s q) {x : Int} (hx : 0 ≤ x ∧ x < s) : 0 ≤ mv q x ∧ mv q x < s := by
  unfold Ok at h
  unfold mv
  split
  · omega
  · split <;> omega
theorem Ok.ne {s : Int} {q : Int × Int} (h : Ok s q) : q.1 ≠ q.2 := by unfold Ok at h; omega
theorem cj_ok {s : Int} {q p : Int × Int} (hq : Ok s q) (hp : Ok s p) : Ok s (cj q p) := by
  have h1 := mv_in hq (x := p.1) (by unfold Ok at hp; omega)
  have h2 := mv_in hq (x := p.2) (by unfold Ok at hp; omega)
  have h3 : mv q p.1 ≠ mv q p.2 := fun e => hp.ne (mv_inj hq.ne e)
  unfold cj Ok
  split <;> simp only <;> omega
theorem cj_fst {q p : Int × Int} (h : mv q p.1 ≤ mv q p.2) : cj q p = (mv q p.1, mv q p.2) := by unfold cj; rw [if_pos h]
theorem cj_snd {q p : Int × Int} (h : ¬ mv q p.1 ≤ mv q p.2) : cj q p = (mv q p.2, mv q p.1) := by unfold cj; rw [if_neg h]
theorem cj_cj {q p : Int × Int} (hq : q.1 ≠ q.2) (hp : p.1 < p.2) : cj q (cj q p) = p := by
  by_cases h : mv q p.1 ≤ mv q p.2
  · rw [cj_fst h, cj]
    simp only [mv_mv hq]
    rw [if_pos (by omega)]
  · rw [cj_snd h, cj]
    simp only [mv_mv hq]
    rw [if_neg (by omega)]
theorem mv_cj {q p : Int × Int} (hq : q.1 ≠ q.2) (hp : p.1 ≠ p.2) (x : Int) : mv (cj q p) (mv q x) = mv q (mv p x) := by
  have hi : ∀ y, (mv q x = mv q y) ↔ x = y := fun y => ⟨mv_inj hq, fun e => by rw [e]⟩
  by_cases h : mv q p.1 ≤ mv q p.2
  · rw [cj_fst h]
    show (if mv q x = mv q p.1 then mv q p.2 else if mv q x = mv q p.2 then mv q p.1 else mv q x) = mv q (if x = p.1 then p.2 else if x = p.2 then p.1 else x)
    simp only [hi]
    by_cases h1 : x = p.1
    · simp [h1]
    · by_cases h2 : x = p.2
      · simp only [h2, if_true]; rw [if_neg (fun e => hp e.symm), if_neg (fun e => hp e.symm)]
      · simp [h1, h2]
  · rw [cj_snd h]
    show (if mv q x = mv q p.2 then mv q p.1 else if mv q x = mv q p.1 then mv q p.2 else mv q x) = mv q (if x = p.1 then p.2 else if x = p.2 then p.1 else x)
    simp only [hi]
    by_cases h1 : x = p.1
    · simp [h1, hp]
    · by_cases h2 : x = p.2
      · simp only [h2, if_true]; rw [if_neg (fun e => hp e.symm)]
      · simp [h1, h2]
theorem sem_later {b e : List (Int × Int)} {p q : Int × Int} (hq : q.1 ≠ q.2) (hp : p.1 ≠ p.2) (x : Int) : sem (b ++ q :: cj q p :: e) x = sem (b ++ p :: q :: e) x := by
  simp only [sem_app, sem_cons, mv_cj hq hp]
theorem sem_earlier {b e : List (Int × Int)} {p q : Int × Int} (hq : q.1 ≠ q.2) (hp : p.1 ≠ p.2) (x : Int) : sem (b ++ cj p q :: p :: e) x = sem (b ++ p :: q :: e) x := by
  simp only [sem_app, sem_cons]
  have := mv_cj hp hq (mv p (sem b x))
  rw [mv_mv hp] at this
  rw [this, mv_mv hp]
/-! ### rows cut at a place -/
section
variable (b e : List (Int × Int)) (p q : Int × Int)
theorem at0 : ixP (dR (b ++ p :: q :: e)) (.int (b.length : Nat)) = some (pr p) := ix_at (by simp)
theorem at1 : ixP (dR (b ++ p :: q :: e)) (.int ((b.length : Nat) + 1)) = some (pr q) := by
  have := ix_at (xs := (b ++ p :: q :: e).map pr) (k := b.length + 1) (d := pr q) (by simp [List.getElem?_append_right])
  exact this
theorem upto : slH (dR (b ++ p :: q :: e)) (.int (b.length : Nat)) = some (dR b) := by
  unfold dR; rw [slH_nat]; simp [List.take_append]
theorem from2 : slL (dR (b ++ p :: q :: e)) (.int ((b.length : Nat) + 2)) = some (dR e) := by
  have := slL_nat ((b ++ p :: q :: e).map pr) (b.length + 2)
  unfold dR
  rw [show ((b.length : Int) + 2) = ((b.length + 2 : Nat) : Int) by omega, this]
  simp [List.drop_append]
end
theorem add_dR {a b : List (Int × Int)} (h : a.length + b.length ≤ zL) : addP (dR a) (dR b) = some (dR (a ++ b)) := by
  unfold dR; rw [add_tup _ _ (by simpa using h), List.map_append]
theorem tup_dR (p q : Int × Int) : tupP [pr p, pr q] = some (dR [p, q]) := rfl
theorem tup1_dR (p : Int × Int) : tupP [pr p] = some (dR [p]) := rfl
theorem cut_at {α : Type} {r : List α} {k : Nat} (h : k + 1 < r.length) : ∃ b p q e, r = b ++ p :: q :: e ∧ b.length = k := by
  refine ⟨r.take k, r[k], r[k + 1], r.drop (k + 2), ?_, by rw [List.length_take]; omega⟩
  rw [← List.drop_eq_getElem_cons (by omega), ← List.drop_eq_getElem_cons (by omega), List.take_append_drop]
theorem OkR.parts {s : Int} {b e : List (Int × Int)} {p q : Int × Int} (h : OkR s (b ++ p :: q :: e)) : OkR s b ∧ Ok s p ∧ Ok s q ∧ OkR s e :=
  ⟨fun x hx => h x (by simp [hx]), h p (by simp), h q (by simp), fun x hx => h x (by simp [hx])⟩
theorem OkR.mk {s : Int} {b e : List (Int × Int)} {p q : Int × Int} (h1 : OkR s b) (h2 : Ok s p) (h3 : Ok s q) (h4 : OkR s e) : OkR s (b ++ p :: q :: e) := fun x hx => by
  simp at hx
  rcases hx with h | h | h | h
  · exact h1 x h
  · rw [h]; exact h2
  · rw [h]; exact h3
  · exact h4 x h
section
variable {T : Tb} {n : Nat} {w : Om}
theorem later_ok (h : T i_moved = some f_moved) (h2 : T i_through = some f_through) (h3 : T i_later_of = some f_later_of) (b e : List (Int × Int)) (p q : Int × Int) (hl : b.length + e.length ≤ 1000) :
    run T (n + 3) i_later_of [dR (b ++ p :: q :: e), .int (b.length : Nat)] w = some (.val (dR (b ++ q :: cj q p :: e)), w) := by
  rw [run_at h3 rfl (by decide)]
  have a1 := add_dR (a := b) (b := [q, cj q p]) (by simp; unfold zL; omega)
  have a2 := add_dR (a := b ++ [q, cj q p]) (b := e) (by simp; unfold zL; omega)
  simp [f_later_of, b_later_of, fin, at0, at1, upto, from2, setAll, thr_ok h h2, tup_dR, a1, a2]
theorem earlier_ok (h : T i_moved = some f_moved) (h2 : T i_through = some f_through) (h3 : T i_earlier_of = some f_earlier_of) (b e : List (Int × Int)) (p q : Int × Int) (hl : b.length + e.length ≤ 1000) :
    run T (n + 3) i_earlier_of [dR (b ++ p :: q :: e), .int (b.length : Nat)] w = some (.val (dR (b ++ cj p q :: p :: e)), w) := by
  rw [run_at h3 rfl (by decide)]
  have a1 := add_dR (a := b) (b := [cj p q, p]) (by simp; unfold zL; omega)
  have a2 := add_dR (a := b ++ [cj p q, p]) (b := e) (by simp; unfold zL; omega)
  simp [f_earlier_of, b_earlier_of, fin, at0, at1, upto, from2, setAll, thr_ok h h2, tup_dR, a1, a2]
theorem cnum_ok (h : T i_in_range = some f_in_range) (h2 : T i_check_number = some f_check_number) (r : List (Int × Int)) (k : Int) (hk : 0 ≤ k ∧ k ≤ r.length - 2) : run T (n + 2) i_check_number [dR r, .int k] w = some (.val .none, w) := by
  rw [run_at h2 rfl (by decide)]
  simp [f_check_number, b_check_number, fin, lenP_dR, inr_int h, hk]
theorem cnum_no (h : T i_in_range = some f_in_range) (h2 : T i_check_number = some f_check_number) (r : List (Int × Int)) (d : D) (hd : d = .none ∨ d = .bool true ∨ ∃ k : Int, d = .int k ∧ ¬ (0 ≤ k ∧ k ≤ r.length - 2)) : run T (n + 2) i_check_number [dR r, d] w = some (.exc ⟨4, .none⟩, w) := by
  rw [run_at h2 rfl (by decide)]
  rcases hd with rfl | rfl | ⟨k, rfl, hk⟩
  · simp [f_check_number, b_check_number, fin, lenP_dR, inr_none h]
  · simp [f_check_number, b_check_number, fin, lenP_dR, inr_bool h]
  · have e : decide (0 ≤ k ∧ k ≤ (r.length : Int) - 2) = false := decide_eq_false hk
    simp [f_check_number, b_check_number, fin, lenP_dR, inr_int h]
    by_cases h5 : 0 ≤ k
    · have h6 : ¬ k ≤ (r.length : Int) - 2 := fun z => hk ⟨h5, z⟩
      simp [h5, h6]
    · simp [h5]
end
end Rx

set_option linter.all false
set_option maxRecDepth 100000
set_option autoImplicit false
namespace Rx
open PySem
section
variable {T : Tb} {n : Nat} {w : Om}
/-! ### drawn numbers -/
theorem lcell_ok (h : T i__law_cell = some f__law_cell) (ns : List Int) (k : Int) (hk : 0 ≤ k) : ∃ v : Int, run T (n + 1) i__law_cell [dScript ns, .int k] w = some (.val (.int v), w) := by
  rw [run_at h rfl (by decide)]
  have e1 : lenP (dScript ns) = some (.int ns.length) := by simp [lenP, dScript]
  by_cases h1 : k < ns.length
  · have hn : k.toNat < ns.length := by omega
    have e2 : ixP (dScript ns) (.int k) = some (.int ns[k.toNat]) := by
      have : ixAt ns.length k = some k.toNat := by unfold ixAt; rw [if_pos hk, if_pos h1]
      simp [ixP, dScript, this, hn]
    exact ⟨ns[k.toNat], by simp [f__law_cell, b__law_cell, fin, e1, e2, h1]⟩
  · exact ⟨0, by simp [f__law_cell, b__law_cell, fin, e1, h1]⟩
/-- sixty numbers below a thousand -/
def Drawn (ds : List Int) : Prop := ds.length = 60 ∧ ∀ x ∈ ds, 0 ≤ x ∧ x < 1000
theorem small_lit {i : Int} (h : small i = true) (j : Int) : mulP (.int j) (.int i) = some (.int (j * i)) ∧ mulP (.int i) (.int j) = some (.int (i * j)) := by
  simp [mulP, h]
theorem lrow_ok (h : T i__law_cell = some f__law_cell) (h2 : T i__law_row = some f__law_row) (ns : List Int) (k : Int) (hk : 0 ≤ k) : ∃ ds, Drawn ds ∧ run T (n + 2) i__law_row [dScript ns, .int k] w = some (.val (.list (ds.map .int)), w) := by
  obtain ⟨v0, e0⟩ := lcell_ok (T := T) (n := n) (w := w) h ns k hk
  obtain ⟨st, e, p⟩ := for_rng (c := run T (n + 1)) (w := w) (tg := .nm 4) (σ := Int × List Int × Option D) (body := sIf (dPrim .lt (dCons (dCall 28 (dCons (dVar 0) (dCons (dVar 1) dNil))) (dCons (dPrim .pow (dCons (dC (.int 10)) (dCons (dC (.int 18)) dNil))) dNil)))
      (sSeq (sAsg 2 (dPrim .mod (dCons (dPrim .add (dCons (dPrim .add (dCons (dPrim .add (dCons (dPrim .mul (dCons (dVar 2) (dCons (dC (.int 48271)) dNil))) (dCons (dPrim .mul (dCons (dC (.int 131)) (dCons (dVar 4) dNil))) dNil))) (dCons (dC (.int 7)) dNil))) (dCons (dCall 28 (dCons (dVar 0) (dCons (dPrim .mod (dCons (dPrim .add (dCons (dPrim .add (dCons (dVar 1) (dCons (dC (.int 1)) dNil))) (dCons (dVar 4) dNil))) (dCons (dC (.int 20)) dNil))) dNil))) dNil))) (dCons (dC (.int 2147483647)) dNil))))
        (sAppend 3 (dPrim .mod (dCons (dPrim .fdiv (dCons (dVar 2) (dCons (dC (.int 11)) dNil))) (dCons (dC (.int 1000)) dNil)))))
      (sSeq (sAppend 3 (dPrim .mod (dCons (dVar 2) (dCons (dC (.int 1000)) dNil))))
        (sAsg 2 (dPrim .fdiv (dCons (dVar 2) (dCons (dC (.int 1000)) dNil))))))
    (fun st => [some (dScript ns), some (.int k), some (.int st.1), some (.list (st.2.1.map .int)), st.2.2]) (fun j st => st.2.1.length = j ∧ ∀ x ∈ st.2.1, 0 ≤ x ∧ x < 1000) 0 60 (v0, [], none) ⟨rfl, by simp⟩
    (fun j st hp hj => by
      obtain ⟨cell, acc, o⟩ := st
      obtain ⟨hp1, hp2⟩ := hp
      simp only at hp1 hp2
      have hz : acc.length < zL := by unfold zL; omega
      have hpw : powP (.int 10) (.int 18) = some (.int 1000000000000000000) := by rfl
      have hm1 := (small_lit (i := 48271) rfl cell).1
      have hm2 := (small_lit (i := 131) rfl (0 + (j : Nat))).2
      have md : ∀ a b : Int, 0 < b → modP (.int a) (.int b) = some (.int (a % b)) := fun a b hb => by simp [modP, hb]
      have fd : ∀ a b : Int, 0 < b → b < 1073741824 → fdivP (.int a) (.int b) = some (.int (a / b)) := fun a b hb hb2 => by simp [fdivP, hb, hb2]
      obtain ⟨u, eu⟩ := lcell_ok (T := T) (n := n) (w := w) h ns ((k + 1 + (0 + (j : Nat))) % 20) (by omega)
      have ap : ∀ x : Int, sAppend 3 (dC (.int x)) = sAppend 3 (dC (.int x)) := fun _ => rfl
      by_cases hc : v0 < 1000000000000000000
      · refine ⟨_, ((cell * 48271 + 131 * (0 + (j : Nat)) + 7 + u) % 2147483647, acc ++ [(cell * 48271 + 131 * (0 + (j : Nat)) + 7 + u) % 2147483647 / 11 % 1000], some (.int (0 + (j : Nat)))), rfl, ?_, ?_, ?_⟩
        · simp only [Int.zero_add] at *
          simp [e0, hpw, hc, hm1, hm2, md, fd, eu, sAppend, plain, hz]
        · simp [hp1]
        · intro x hx
          rcases List.mem_append.mp hx with hx | hx
          · exact hp2 x hx
          · simp at hx; omega
      · refine ⟨_, (cell / 1000, acc ++ [cell % 1000], some (.int (0 + (j : Nat)))), rfl, ?_, ?_, ?_⟩
        · simp only [Int.zero_add] at *
          simp [e0, hpw, hc, md, fd, sAppend, plain, hz]
        · simp [hp1]
        · intro x hx
          rcases List.mem_append.mp hx with hx | hx
          · exact hp2 x hx
          · simp at hx; omega)
  obtain ⟨cell, ds, o⟩ := st
  refine ⟨ds, p, ?_⟩
  rw [run_at h2 rfl (by decide)]
  have e2 : iRng (dCons (dC (.int 60)) dNil) (run T (n + 1)) [some (dScript ns), some (.int k), some (.int v0), some (.list []), none] w = some (.vals (rangeD 0 60), w) := e_iRng1 _ _ _ _ _ (by simp) rfl
  simp only [List.map_nil] at e
  simp [f__law_row, b__law_row, fin, e0, lstP, zL, e2, e]
theorem Drawn.at_ {ds : List Int} (h : Drawn ds) (k : Nat) (hk : k < 60) : ∃ x : Int, (0 ≤ x ∧ x < 1000) ∧ ixP (.list (ds.map .int)) (.int (k : Nat)) = some (.int x) := by
  have hl : k < ds.length := by rw [h.1]; exact hk
  exact ⟨ds[k], h.2 _ (List.getElem_mem hl), ixL_at (by simp [hl])⟩
/-! ### all pairs -/
def pairsL (s : Nat) : List (Int × Int) := (List.range s).flatMap fun i => (List.range (s - (i + 1))).map fun j => ((i : Nat), ((i + 1 + j : Nat) : Int))
theorem pairs_ok (h : T i__law_pairs = some f__law_pairs) (s : Nat) (hs : 2 ≤ s ∧ s ≤ 6) : run T (n + 1) i__law_pairs [.int (s : Nat)] w = some (.val (.list ((pairsL s).map pr)), w) := by
  rw [run_at h rfl (by decide)]
  have : s = 2 ∨ s = 3 ∨ s = 4 ∨ s = 5 ∨ s = 6 := by omega
  rcases this with rfl | rfl | rfl | rfl | rfl <;> rfl
theorem pairsL_ok {s : Nat} {p : Int × Int} (h : p ∈ pairsL s) : Ok s p := by
  unfold pairsL at h
  rw [List.mem_flatMap] at h
  obtain ⟨i, hi, h⟩ := h
  rw [List.mem_map] at h
  obtain ⟨j, hj, rfl⟩ := h
  rw [List.mem_range] at hi hj
  unfold Ok
  simp only
  omega
/-! ### what the law computes of a list -/
theorem lresult_ok (h : T i__law_to = some f__law_to) (h2 : T i__law_result = some f__law_result) (s : Int) (hs : 0 ≤ s ∧ s ≤ 1000) (r : List (Int × Int)) :
    run T (n + 2) i__law_result [.int s, dR r] w = some (.val (.tuple ((resL s r).map .int)), w) := by
  rw [run_at h2 rfl (by decide)]
  have hi : inR s = true := by unfold inR; simp; omega
  have hz : (s.toNat) ≤ zL := by unfold zL; omega
  have e1 : rng1P (.int s) = some (.list (rangeD 0 s)) := by
    have h9 : s ≤ (zL : Int) := by unfold zL; omega
    simp only [rng1P, hi, decide_eq_true h9, Bool.and_self, if_true]
  have go : ∀ (r : List (Int × Int)) (f : List Int) (o4 : Option D) (rd : D), f.length ≤ zL → ∃ o3, forGo (run T (n + 1)) (.nm 3) (sAsg 2 (dComp (iSeq (dVar 2)) (.nm 4) none (dCall 31 (dCons (dVar 3) (dCons (dVar 4) dNil))) [4])) (r.map pr) [some (.int s), some rd, some (.list (f.map .int)), o4, none] w
      = some (.next [some (.int s), some rd, some (.list ((f.map (sem r)).map .int)), o3, none], w) := by
    intro r
    induction r with
    | nil =>
      intro f o4 rd _
      refine ⟨o4, ?_⟩
      have : f.map (sem []) = f := by
        have : sem [] = id := rfl
        rw [this, List.map_id]
      rw [this]; rfl
    | cons p r ih =>
      intro f o4 rd hf
      obtain ⟨o3, e⟩ := ih (f.map (mv p)) (some (pr p)) rd (by rw [List.length_map]; exact hf)
      refine ⟨o3, ?_⟩
      have hc : dComp (iSeq (dVar 2)) (.nm 4) none (dCall 31 (dCons (dVar 3) (dCons (dVar 4) dNil))) [4] (run T (n + 1)) [some (.int s), some rd, some (.list (f.map .int)), some (pr p), none] w = some (.val (.list (f.map fun x => .int (mv p x))), w) :=
        dComp_map (fun x => .int (mv p x)) .int f (by simp) (fun x _ => ⟨_, rfl, by simp [wipeR, lto_ok h], rfl⟩) hf
      rw [List.map_cons, forGo]
      simp [bindT, hc]
      rw [List.map_map] at e
      have e' := e
      simp only [List.map_map] at e' ⊢
      exact e'
  obtain ⟨o3, e⟩ := go r ((List.range (s - 0).toNat).map fun i => (0 : Int) + (i : Nat)) none (dR r) (by rw [List.length_map, List.length_range, Int.sub_zero]; exact hz)
  rw [← rangeD_map] at e
  have e5 : ((List.range (s - 0).toNat).map fun i => (0 : Int) + (i : Nat)).map (sem r) = resL s r := by
    unfold resL
    rw [List.map_map, Int.sub_zero]
    apply List.map_congr_left
    intro a _
    simp
  rw [e5] at e
  simp [dR] at e
  simp [f__law_result, b__law_result, fin, e1, dR, e]
end
end Rx

set_option linter.all false
set_option maxRecDepth 100000
set_option autoImplicit false
namespace Rx
open PySem
def star (s : Int) : List (Int × Int) := (List.range (s - 1).toNat).map fun i => ((0 : Int), 1 + ((i : Nat) : Int))
theorem star_ok (s : Int) : OkR s (star s) := fun p hp => by
  unfold star at hp
  rw [List.mem_map] at hp
  obtain ⟨i, hi, rfl⟩ := hp
  rw [List.mem_range] at hi
  unfold Ok; simp only; omega
theorem star_len {s : Int} (h : 1 ≤ s) : ((star s).length : Int) = s - 1 := by unfold star; rw [List.length_map, List.length_range]; omega
def dL (r : List (Int × Int)) : D := .list (r.map pr)
section
variable (b e : List (Int × Int)) (p q x : Int × Int)
theorem lat0 : ixP (dL (b ++ p :: q :: e)) (.int (b.length : Nat)) = some (pr p) := ixL_at (by simp)
theorem lat1 : ixP (dL (b ++ p :: q :: e)) (.int ((b.length : Nat) + 1)) = some (pr q) := by
  have := ixL_at (xs := (b ++ p :: q :: e).map pr) (k := b.length + 1) (d := pr q) (by simp [List.getElem?_append_right])
  exact this
theorem set0 : ((b ++ p :: q :: e).map pr).set b.length (pr x) = (b ++ x :: q :: e).map pr := by
  rw [List.map_append, List.set_append_right _ _ (by simp)]
  simp
theorem set1 : ((b ++ p :: q :: e).map pr).set (b.length + 1) (pr x) = (b ++ p :: x :: e).map pr := by
  rw [List.map_append, List.set_append_right _ _ (by simp)]
  simp
theorem ixa0 : ixAt ((b ++ p :: q :: e).map pr).length (b.length : Nat) = some b.length := ixAt_nat (by simp)
theorem ixa1 : ixAt ((b ++ p :: q :: e).map pr).length ((b.length : Nat) + 1) = some (b.length + 1) := ixAt_nat (k := b.length + 1) (by simp)
end
/-- x[k] = v, over the env r whose slot i holds a list of pairs -/
theorem setIx_ev {c : Cf} {r : Env} {w : Om} {i : Nat} {k e : Ex} {d : D} {j : Int} {xs : List D} {m : Nat} (h1 : e c r w = some (.val d, w)) (h2 : r[i]? = some (some (.list xs))) (h3 : k c r w = some (.val (.int j), w)) (hp : plain d = true) (h4 : ixAt xs.length j = some m) : sSetIx i k e c r w = some (.next (r.set i (some (.list (xs.set m d)))), w) := by
  unfold sSetIx
  rw [h1]
  simp only
  rw [h2]
  simp only
  rw [h3]
  simp only [hp, if_true]
  rw [h4]
  rfl
section
variable {T : Tb} {n : Nat} {w : Om}
def rnB : Sx := sSeq (sAsg 6 (dPrim .mod (dCons (dPrim .ix (dCons (dVar 3) (dCons (dVar 5) dNil))) (dCons (dPrim .sub (dCons (dVar 2) (dCons (dC (.int 2)) dNil))) dNil))))
    (sSeq (sAsgT (.tp [(.nm 7), (.nm 8)]) (dPrim .tup (dCons (dPrim .ix (dCons (dVar 4) (dCons (dVar 6) dNil))) (dCons (dPrim .ix (dCons (dVar 4) (dCons (dPrim .add (dCons (dVar 6) (dCons (dC (.int 1)) dNil))) dNil))) dNil))))
    (sIf (dPrim .eq (dCons (dPrim .mod (dCons (dPrim .ix (dCons (dVar 3) (dCons (dPrim .add (dCons (dC (.int 20)) (dCons (dVar 5) dNil))) dNil))) (dCons (dC (.int 2)) dNil))) (dCons (dC (.int 0)) dNil)))
    (sSeq (sSetIx 4 (dVar 6) (dVar 8))
    (sSetIx 4 (dPrim .add (dCons (dVar 6) (dCons (dC (.int 1)) dNil))) (dPrim .tuple (dCons (dPrim .sorted (dCons (dComp (iSeq (dVar 7)) (.nm 9) none (dCall 31 (dCons (dVar 8) (dCons (dVar 9) dNil))) [9]) dNil)) dNil))))
    (sSeq (sSetIx 4 (dVar 6) (dPrim .tuple (dCons (dPrim .sorted (dCons (dComp (iSeq (dVar 8)) (.nm 9) none (dCall 31 (dCons (dVar 7) (dCons (dVar 9) dNil))) [9]) dNil)) dNil)))
    (sSetIx 4 (dPrim .add (dCons (dVar 6) (dCons (dC (.int 1)) dNil))) (dVar 7)))))
theorem rnB_ok (h : T i__law_to = some f__law_to) {s k : Int} {ds : List Int} {ns : List Int} (hd : Drawn ds) (j : Nat) (hj : j < 16) (b e : List (Int × Int)) (p q : Int × Int) (hk : ∃ a : Int, ixP (.list (ds.map .int)) (.int (j : Nat)) = some (.int a) ∧ a % (s - 2) = (b.length : Nat)) (hs : 2 < s) (o6 o7 o8 : Option D) :
    ∃ p' q' o6' o7' o8', ((p' = q ∧ q' = cj q p) ∨ (p' = cj p q ∧ q' = p)) ∧ rnB (run T (n + 1)) [some (dScript ns), some (.int k), some (.int s), some (.list (ds.map .int)), some (dL (b ++ p :: q :: e)), some (.int (j : Nat)), o6, o7, o8, none] w =
      some (.next [some (dScript ns), some (.int k), some (.int s), some (.list (ds.map .int)), some (dL (b ++ p' :: q' :: e)), some (.int (j : Nat)), o6', o7', o8', none], w) := by
  obtain ⟨a, ha, hak⟩ := hk
  obtain ⟨y, hy, ey⟩ := hd.at_ (20 + j) (by omega)
  have ey2 : ixP (.list (ds.map .int)) (.int (20 + (j : Nat))) = some (.int y) := by
    have : ((20 + j : Nat) : Int) = 20 + (j : Int) := by omega
    rw [← this]; exact ey
  have m1 : modP (.int a) (.int (s - 2)) = some (.int (b.length : Nat)) := by
    have : 0 < s - 2 := by omega
    simp only [modP, this, if_true, hak]
  have m2 : modP (.int y) (.int 2) = some (.int (y % 2)) := by simp [modP]
  have t1 : tupP [pr p, pr q] = some (.tuple [pr p, pr q]) := rfl
  let env : Env := [some (dScript ns), some (.int k), some (.int s), some (.list (ds.map .int)), some (dL (b ++ p :: q :: e)), some (.int (j : Nat)), some (.int (b.length : Nat)), some (pr p), some (pr q), none]
  by_cases hc : y % 2 = 0
  · refine ⟨q, cj q p, some (.int (b.length : Nat)), some (pr p), some (pr q), .inl ⟨rfl, rfl⟩, ?_⟩
    have s1 : sSetIx 4 (dVar 6) (dVar 8) (run T (n + 1)) env w = some (.next (env.set 4 (some (dL (b ++ q :: q :: e)))), w) := by
      rw [setIx_ev (d := pr q) (j := (b.length : Nat)) rfl rfl rfl rfl (ixa0 b e p q), set0]; rfl
    have s2 : sSetIx 4 (dPrim .add (dCons (dVar 6) (dCons (dC (.int 1)) dNil))) (dPrim .tuple (dCons (dPrim .sorted (dCons (dComp (iSeq (dVar 7)) (.nm 9) none (dCall 31 (dCons (dVar 8) (dCons (dVar 9) dNil))) [9]) dNil)) dNil)) (run T (n + 1)) (env.set 4 (some (dL (b ++ q :: q :: e)))) w = some (.next ((env.set 4 (some (dL (b ++ q :: q :: e)))).set 4 (some (dL (b ++ q :: cj q p :: e)))), w) := by
      rw [setIx_ev (d := pr (cj q p)) (j := (b.length : Nat) + 1) (cj_comp (fun x => lto_ok h n q x w) rfl rfl (show 9 < 10 by decide) (by decide)) rfl rfl rfl (ixa1 b e q q), set1]; rfl
    simp only [env, List.set_cons_succ, List.set_cons_zero] at s1 s2
    simp [rnB, ha, m1, lat0, lat1, t1, bindT, bindTs, ey2, m2, hc, s1, s2]
  · refine ⟨cj p q, p, some (.int (b.length : Nat)), some (pr p), some (pr q), .inr ⟨rfl, rfl⟩, ?_⟩
    have s1 : sSetIx 4 (dVar 6) (dPrim .tuple (dCons (dPrim .sorted (dCons (dComp (iSeq (dVar 8)) (.nm 9) none (dCall 31 (dCons (dVar 7) (dCons (dVar 9) dNil))) [9]) dNil)) dNil)) (run T (n + 1)) env w = some (.next (env.set 4 (some (dL (b ++ cj p q :: q :: e)))), w) := by
      rw [setIx_ev (d := pr (cj p q)) (j := (b.length : Nat)) (cj_comp (fun x => lto_ok h n p x w) rfl rfl (show 9 < 10 by decide) (by decide)) rfl rfl rfl (ixa0 b e p q), set0]; rfl
    have s2 : sSetIx 4 (dPrim .add (dCons (dVar 6) (dCons (dC (.int 1)) dNil))) (dVar 7) (run T (n + 1)) (env.set 4 (some (dL (b ++ cj p q :: q :: e)))) w = some (.next ((env.set 4 (some (dL (b ++ cj p q :: q :: e)))).set 4 (some (dL (b ++ cj p q :: p :: e)))), w) := by
      rw [setIx_ev (d := pr p) (j := (b.length : Nat) + 1) rfl rfl rfl rfl (ixa1 b e (cj p q) q), set1]; rfl
    simp only [env, List.set_cons_succ, List.set_cons_zero] at s1 s2
    simp [rnB, ha, m1, lat0, lat1, t1, bindT, bindTs, ey2, m2, hc, s1, s2]
theorem round_ok (h0 : T i__law_cell = some f__law_cell) (h1 : T i__law_row = some f__law_row) (h : T i__law_to = some f__law_to) (h2 : T i__law_round = some f__law_round) (ns : List Int) (k : Int) (hk : 0 ≤ k) (s : Int) (hs : 2 ≤ s ∧ s ≤ 6) :
    ∃ r, OkR s r ∧ (r.length : Int) = s - 1 ∧ (∀ x, sem r x = sem (star s) x) ∧ run T (n + 3) i__law_round [dScript ns, .int k, .int s] w = some (.val (dR r), w) := by
  obtain ⟨ds, hd, ed⟩ := lrow_ok (T := T) (n := n) (w := w) h0 h1 ns k hk
  have hi : inR s = true := by unfold inR; simp; omega
  have hc : dComp (iRng (dCons (dC (.int 1)) (dCons (dVar 2) dNil))) (.nm 9) none (dPrim .tup (dCons (dC (.int 0)) (dCons (dVar 9) dNil))) [9] (run T (n + 2)) [some (dScript ns), some (.int k), some (.int s), some (.list (ds.map .int)), none, none, none, none, none, none] w = some (.val (dL (star s)), w) := by
    rw [dComp_map (fun i : Nat => pr (0, 1 + (i : Nat))) (fun i : Nat => .int (1 + (i : Nat))) (List.range (s - 1).toNat) (e_iRng2 _ _ _ _ _ 1 s (by simp) (by simp) rfl hi) (fun i _ => ⟨_, rfl, by simp [wipeR, tupP, plain, zL, pr], rfl⟩) (by rw [List.length_range]; unfold zL; omega)]
    unfold dL star; rw [List.map_map]; rfl
  obtain ⟨m, hm, em⟩ : ∃ m : Int, ((2 < s ∧ m = 16) ∨ (s = 2 ∧ m = 0)) ∧ iRng (dCons (dIte (dPrim .gt (dCons (dVar 2) (dCons (dC (.int 2)) dNil))) (dC (.int 16)) (dC (.int 0))) dNil) (run T (n + 2)) [some (dScript ns), some (.int k), some (.int s), some (.list (ds.map .int)), some (dL (star s)), none, none, none, none, none] w = some (.vals (rangeD 0 m), w) := by
    by_cases h9 : 2 < s
    · exact ⟨16, .inl ⟨h9, rfl⟩, e_iRng1 _ _ _ _ _ (by simp [h9]) rfl⟩
    · exact ⟨0, .inr ⟨by omega, rfl⟩, e_iRng1 _ _ _ _ _ (by simp [h9]) rfl⟩
  obtain ⟨st, e, p1, p2, p3⟩ := for_rng (c := run T (n + 2)) (w := w) (tg := .nm 5) (body := rnB) (σ := List (Int × Int) × Option D × Option D × Option D × Option D) (fun st => [some (dScript ns), some (.int k), some (.int s), some (.list (ds.map .int)), some (dL st.1), st.2.1, st.2.2.1, st.2.2.2.1, st.2.2.2.2, none])
    (fun _ st => OkR s st.1 ∧ (st.1.length : Int) = s - 1 ∧ ∀ x, sem st.1 x = sem (star s) x) 0 m (star s, none, none, none, none) ⟨star_ok s, star_len (by omega), fun _ => rfl⟩
    (fun j st hp hj => by
      obtain ⟨r, o5, o6, o7, o8⟩ := st
      obtain ⟨q1, q2, q3⟩ := hp
      simp only at q1 q2 q3
      rcases hm with ⟨hm, rfl⟩ | ⟨_, rfl⟩
      · have hj16 : j < 16 := by omega
        obtain ⟨a, ha, ea⟩ := hd.at_ j (by omega)
        obtain ⟨b, p, q, e, rfl, hb⟩ := cut_at (r := r) (k := (a % (s - 2)).toNat) (by have := Int.emod_lt_of_pos a (show 0 < s - 2 by omega); have := Int.emod_nonneg a (show s - 2 ≠ 0 by omega); omega)
        obtain ⟨ok1, ok2, ok3, ok4⟩ := q1.parts
        obtain ⟨p', q', o6', o7', o8', hpq, ev⟩ := rnB_ok (T := T) (n := n + 1) (w := w) (k := k) (ns := ns) (s := s) h hd j hj16 b e p q ⟨a, ea, by have := Int.emod_nonneg a (show s - 2 ≠ 0 by omega); omega⟩ hm o6 o7 o8
        refine ⟨_, (b ++ p' :: q' :: e, some (.int (j : Nat)), o6', o7', o8'), rfl, ?_, ?_, ?_, ?_⟩
        · simp only [Int.zero_add, List.set_cons_succ, List.set_cons_zero]; exact ev
        · rcases hpq with ⟨rfl, rfl⟩ | ⟨rfl, rfl⟩
          · exact .mk ok1 ok3 (cj_ok ok3 ok2) ok4
          · exact .mk ok1 (cj_ok ok2 ok3) ok2 ok4
        · simp only [List.length_append, List.length_cons] at q2 ⊢; exact q2
        · intro x
          rw [← q3 x]
          rcases hpq with ⟨rfl, rfl⟩ | ⟨rfl, rfl⟩
          · exact sem_later ok3.ne ok2.ne x
          · exact sem_earlier ok3.ne ok2.ne x
      · omega)
  obtain ⟨r, o5, o6, o7, o8⟩ := st
  refine ⟨r, p1, p2, p3, ?_⟩
  rw [run_at h2 rfl (by decide)]
  unfold rnB at e
  simp only at e
  have ei : items (dL r) = some (r.map pr) := rfl
  simp [f__law_round, b__law_round, fin, ed, hc, em, e, ei, dR]
end
end Rx

set_option linter.all false
set_option maxRecDepth 100000
set_option autoImplicit false
namespace Rx
open PySem
theorem srt_cj (q p : Int × Int) : sortedP (.list [.int (mv q p.1), .int (mv q p.2)]) = some (.list [.int (cj q p).1, .int (cj q p).2]) := by
  rw [sorted2]
  unfold cj
  by_cases h : mv q p.1 ≤ mv q p.2 <;> simp [h]
theorem pr_of (p : Int × Int) : PyData.tuple [.int p.1, .int p.2] = pr p := rfl
theorem cj_list {c : Cf} {w : Om} {r : Env} {f : Nat} {q p : Int × Int} {i j k : Nat} (hf : ∀ x : Int, c f [pr q, .int x] w = some (.val (.int (mv q x)), w)) (hr : r[i]? = some (some (pr q))) (hp : r[j]? = some (some (pr p))) (hk : k < r.length) (hki : i ≠ k) :
    dComp (iSeq (dVar j)) (.nm k) none (dCall f (dCons (dVar i) (dCons (dVar k) dNil))) [k] c r w = some (.val (.list [.int (mv q p.1), .int (mv q p.2)]), w) := by
  rw [dComp_map (fun x => .int (mv q x)) .int [p.1, p.2] (by simp [hp]; rfl) (fun x hx => ⟨_, rfl, ?_, rfl⟩) (show 2 ≤ zL by decide)]
  · rfl
  · have hk2 : k < ((r.set k none)).length := by rw [List.length_set]; exact hk
    have e1 : ((r.set k none).set k (some (.int x)))[i]? = some (some (pr q)) := by
      rw [List.getElem?_set_ne (fun z => hki z.symm), List.getElem?_set_ne (fun z => hki z.symm)]; exact hr
    have e2 : ((r.set k none).set k (some (.int x)))[k]? = some (some (.int x)) := List.getElem?_set_self hk2
    simp only [wipeR, e_dCall, e_dCons, e_dVar, e_dNil, e1, e2, hf]
theorem lenP_dL (l : List (Int × Int)) : lenP (dL l) = some (.int l.length) := by simp [lenP, dL]
theorem mod_pos {a b : Int} (h : 0 < b) : modP (.int a) (.int b) = some (.int (a % b)) := by simp [modP, h]
theorem pick {l : List (Int × Int)} (h : 0 < l.length) (x : Int) : ∃ p ∈ l, ixP (dL l) (.int (x % (l.length : Int))) = some (pr p) := by
  have h1 := Int.emod_lt_of_pos x (show (0 : Int) < l.length by omega)
  have h2 := Int.emod_nonneg x (show (l.length : Int) ≠ 0 by omega)
  have hk : (x % (l.length : Int)).toNat < l.length := by omega
  refine ⟨l[(x % (l.length : Int)).toNat], List.getElem_mem hk, ?_⟩
  have := ixL_at (xs := l.map pr) (k := (x % (l.length : Int)).toNat) (d := pr l[(x % (l.length : Int)).toNat]) (by simp [hk])
  rw [show (((x % (l.length : Int)).toNat : Nat) : Int) = x % (l.length : Int) by omega] at this
  exact this
theorem pairsL_pos {s : Nat} (h : 2 ≤ s ∧ s ≤ 6) : 0 < (pairsL s).length := by
  have : s = 2 ∨ s = 3 ∨ s = 4 ∨ s = 5 ∨ s = 6 := by omega
  rcases this with rfl | rfl | rfl | rfl | rfl <;> decide
section
variable {T : Tb} {n : Nat} {w : Om}
/-- a drawn list: in range; round, if it was drawn so -/
theorem llist_ok (h0 : T i__law_cell = some f__law_cell) (h1 : T i__law_row = some f__law_row) (h2 : T i__law_to = some f__law_to) (h3 : T i__law_round = some f__law_round) (h4 : T i__law_pairs = some f__law_pairs) (h5 : T i__law_list = some f__law_list) (ns : List Int) (k : Int) (hk : 0 ≤ k) (s : Int) (hs : 2 ≤ s ∧ s ≤ 6) :
    ∃ r, OkR s r ∧ (r.length : Int) = s - 1 ∧ run T (n + 4) i__law_list [dScript ns, .int k, .int s] w = some (.val (dR r), w) := by
  obtain ⟨m, rfl⟩ : ∃ m : Nat, s = (m : Nat) := ⟨s.toNat, by omega⟩
  have hm : 2 ≤ m ∧ m ≤ 6 := by omega
  obtain ⟨ds, hd, ed⟩ := lrow_ok (T := T) (n := n + 1) (w := w) h0 h1 ns k hk
  obtain ⟨r, ok, hl, _, er⟩ := round_ok (T := T) (n := n) (w := w) h0 h1 h2 h3 ns k hk m hs
  have ep := pairs_ok (T := T) (n := n + 2) (w := w) h4 m hm
  replace ep : run T (n + 3) i__law_pairs [.int (m : Nat)] w = some (.val (dL (pairsL m)), w) := ep
  obtain ⟨x50, h50, e50⟩ := hd.at_ 50 (by decide)
  obtain ⟨x51, h51, e51⟩ := hd.at_ 51 (by decide)
  obtain ⟨x52, h52, e52⟩ := hd.at_ 52 (by decide)
  have hrl : 0 < r.length := by omega
  obtain ⟨p, hp, epk⟩ := pick (pairsL_pos hm) x52
  have m50 : modP (.int x50) (.int 3) = some (.int (x50 % 3)) := mod_pos (by decide)
  have m51 : modP (.int x51) (.int r.length) = some (.int (x51 % r.length)) := mod_pos (by omega)
  have m52 : modP (.int x52) (.int (pairsL m).length) = some (.int (x52 % (pairsL m).length)) := mod_pos (by have := pairsL_pos hm; omega)
  by_cases c0 : x50 % 3 = 0
  · refine ⟨r, ok, hl, ?_⟩
    rw [run_at h5 rfl (by decide)]
    simp at e50
    simp [f__law_list, b__law_list, fin, ed, ep, er, e50, m50, c0]
  · by_cases c1 : x50 % 3 = 1
    · have hn1 := Int.emod_lt_of_pos x51 (show (0 : Int) < r.length by omega)
      have hn2 := Int.emod_nonneg x51 (show (r.length : Int) ≠ 0 by omega)
      obtain ⟨j, hj⟩ : ∃ j : Nat, x51 % (r.length : Int) = (j : Nat) := ⟨(x51 % (r.length : Int)).toNat, by omega⟩
      have s1 : slH (dR r) (.int (x51 % r.length)) = some (dR (r.take j)) := by
        rw [hj]; unfold dR; rw [slH_nat, List.map_take]
      have s2 : slL (dR r) (.int (x51 % r.length + 1)) = some (dR (r.drop (j + 1))) := by
        rw [hj]; unfold dR; rw [show ((j : Int) + 1) = ((j + 1 : Nat) : Int) by omega, slL_nat, List.map_drop]
      have a1 := add_dR (a := r.take j) (b := [p]) (by rw [List.length_take]; simp; unfold zL; omega)
      have a2 := add_dR (a := r.take j ++ [p]) (b := r.drop (j + 1)) (by simp; unfold zL; omega)
      refine ⟨r.take j ++ [p] ++ r.drop (j + 1), ?_, ?_, ?_⟩
      · intro x hx
        rcases List.mem_append.mp hx with hx | hx
        · rcases List.mem_append.mp hx with hx | hx
          · exact ok x (List.mem_of_mem_take hx)
          · simp at hx; rw [hx]; exact pairsL_ok hp
        · exact ok x (List.mem_of_mem_drop hx)
      · simp; omega
      · rw [run_at h5 rfl (by decide)]
        simp at e50 e51 e52
        simp only [List.append_assoc] at a1 a2 ⊢
        simp [f__law_list, b__law_list, fin, ed, ep, er, e50, e51, e52, m50, m51, m52, c0, c1, lenP_dR, lenP_dL, s1, s2, epk, tup1_dR, a1, a2]
    · have hpk : ∀ i : Nat, i < m - 1 → ∃ q ∈ pairsL m, ∃ y : Int, ixP (.list (ds.map .int)) (.int (40 + (i : Nat))) = some (.int y) ∧ ixP (dL (pairsL m)) (.int (y % (pairsL m).length)) = some (pr q) := fun i hi => by
        obtain ⟨y, _, ey⟩ := hd.at_ (40 + i) (by omega)
        obtain ⟨q, hq, eq⟩ := pick (pairsL_pos hm) y
        exact ⟨q, hq, y, by rw [show (40 + (i : Int)) = ((40 + i : Nat) : Int) by omega]; exact ey, eq⟩
      have ch : ∃ f : Nat → Int × Int, ∀ i, i < m - 1 → f i ∈ pairsL m ∧ ∃ y : Int, ixP (.list (ds.map .int)) (.int (40 + (i : Nat))) = some (.int y) ∧ ixP (dL (pairsL m)) (.int (y % (pairsL m).length)) = some (pr (f i)) :=
        ⟨fun i => if hi : i < m - 1 then (hpk i hi).choose else (0, 0), fun i hi => by
          have := (hpk i hi).choose_spec
          simp only [hi, dif_pos]
          exact this⟩
      obtain ⟨f, hf⟩ := ch
      have hi : inR ((m : Int) - 1) = true := by unfold inR; simp; omega
      have hc : dComp (iRng (dCons (dPrim .sub (dCons (dVar 2) (dCons (dC (.int 1)) dNil))) dNil)) (.nm 6) none (dPrim .ix (dCons (dVar 4) (dCons (dPrim .mod (dCons (dPrim .ix (dCons (dVar 3) (dCons (dPrim .add (dCons (dC (.int 40)) (dCons (dVar 6) dNil))) dNil))) (dCons (dPrim .len (dCons (dVar 4) dNil)) dNil))) dNil))) [6] (run T (n + 3))
          [some (dScript ns), some (.int k), some (.int (m : Nat)), some (.list (ds.map .int)), some (dL (pairsL m)), some (dR r), none] w = some (.val (.list (((List.range (m - 1)).map f).map pr)), w) := by
        rw [dComp_map (fun i : Nat => pr (f i)) (fun i : Nat => .int (i : Nat)) (List.range (m - 1)) (by
            rw [e_iRng1 _ _ _ _ ((m : Int) - 1) (by simp) hi]
            unfold rangeD
            rw [show ((m : Int) - 1 - 0).toNat = m - 1 by omega]
            simp) (fun i hi => ⟨_, rfl, by
              rw [List.mem_range] at hi
              obtain ⟨_, y, e1, e2⟩ := hf i hi
              have e3 : modP (.int y) (.int (pairsL m).length) = some (.int (y % (pairsL m).length)) := mod_pos (by have := pairsL_pos hm; omega)
              simp [wipeR, e1, e2, e3, lenP_dL], rfl⟩) (by rw [List.length_range]; unfold zL; omega)]
        rw [List.map_map]; rfl
      refine ⟨(List.range (m - 1)).map f, ?_, ?_, ?_⟩
      · intro x hx
        obtain ⟨i, hi, rfl⟩ := List.mem_map.mp hx
        exact pairsL_ok (hf i (List.mem_range.mp hi)).1
      · simp; omega
      · rw [run_at h5 rfl (by decide)]
        simp at e50
        have c1' : ¬ x50 % 3 = 1 := c1
        simp [f__law_list, b__law_list, fin, ed, ep, er, e50, m50, c0, c1, hc]
        simp [dR]
end
end Rx

set_option linter.all false
set_option maxRecDepth 100000
set_option autoImplicit false
namespace Rx
open PySem
/-! ### turning -/
def rt (s k : Int) (p : Int × Int) : Int × Int := if (p.1 + k) % s ≤ (p.2 + k) % s then ((p.1 + k) % s, (p.2 + k) % s) else ((p.2 + k) % s, (p.1 + k) % s)
theorem srt_rt (s k : Int) (p : Int × Int) : sortedP (.list [.int ((p.1 + k) % s), .int ((p.2 + k) % s)]) = some (.list [.int (rt s k p).1, .int (rt s k p).2]) := by
  rw [sorted2]
  unfold rt
  by_cases h : (p.1 + k) % s ≤ (p.2 + k) % s <;> simp [h]
theorem rot_inj {s k x y : Int} (hx : 0 ≤ x ∧ x < s) (hy : 0 ≤ y ∧ y < s) (e : (x + k) % s = (y + k) % s) : x = y := by
  have h1 : (x - y) % s = 0 := by
    have h2 := Int.emod_emod_of_dvd (x + k - (y + k)) (Int.dvd_refl s)
    have h3 : (x + k - (y + k)) % s = 0 := by rw [Int.sub_emod, e, Int.sub_self, Int.zero_emod]
    rw [show x + k - (y + k) = x - y by omega] at h3
    exact h3
  obtain ⟨c, hc⟩ := Int.dvd_of_emod_eq_zero h1
  have : c = 0 := by
    by_cases hp : c ≤ 0
    · by_cases hn : 0 ≤ c
      · omega
      · have : s * c ≤ s * (-1) := Int.mul_le_mul_of_nonneg_left (by omega) (by omega)
        omega
    · have : s * 1 ≤ s * c := Int.mul_le_mul_of_nonneg_left (by omega) (by omega)
      omega
  rw [this] at hc
  omega
theorem rot_in {s : Int} (h : 0 < s) (x : Int) : 0 ≤ x % s ∧ x % s < s := ⟨Int.emod_nonneg _ (by omega), Int.emod_lt_of_pos _ h⟩
theorem rt_ok {s k : Int} {p : Int × Int} (hp : Ok s p) : Ok s (rt s k p) := by
  have hs : 0 < s := by unfold Ok at hp; omega
  have h1 := rot_in hs (p.1 + k)
  have h2 := rot_in hs (p.2 + k)
  have h3 : (p.1 + k) % s ≠ (p.2 + k) % s := fun e => hp.ne (rot_inj (k := k) (by unfold Ok at hp; omega) (by unfold Ok at hp; omega) e)
  unfold rt Ok
  split <;> simp only <;> omega
theorem mv_rt {s k : Int} {p : Int × Int} (hp : Ok s p) {x : Int} (hx : 0 ≤ x ∧ x < s) : mv (rt s k p) ((x + k) % s) = (mv p x + k) % s := by
  have hi1 : ((x + k) % s = (p.1 + k) % s) ↔ x = p.1 := ⟨rot_inj hx (by unfold Ok at hp; omega), fun e => by rw [e]⟩
  have hi2 : ((x + k) % s = (p.2 + k) % s) ↔ x = p.2 := ⟨rot_inj hx (by unfold Ok at hp; omega), fun e => by rw [e]⟩
  have hne := hp.ne
  unfold rt
  by_cases h : (p.1 + k) % s ≤ (p.2 + k) % s
  · rw [if_pos h]
    show (if (x + k) % s = (p.1 + k) % s then (p.2 + k) % s else if (x + k) % s = (p.2 + k) % s then (p.1 + k) % s else (x + k) % s) = ((if x = p.1 then p.2 else if x = p.2 then p.1 else x) + k) % s
    simp only [hi1, hi2]
    split
    · rfl
    · split <;> rfl
  · rw [if_neg h]
    show (if (x + k) % s = (p.2 + k) % s then (p.1 + k) % s else if (x + k) % s = (p.1 + k) % s then (p.2 + k) % s else (x + k) % s) = ((if x = p.1 then p.2 else if x = p.2 then p.1 else x) + k) % s
    simp only [hi1, hi2]
    by_cases h1 : x = p.1
    · rw [if_neg (fun e => hne (h1.symm.trans e)), if_pos h1, if_pos h1]
    · rw [if_neg h1, if_neg h1]
      split <;> rfl
theorem sem_in {s : Int} : ∀ {r : List (Int × Int)}, OkR s r → ∀ {x : Int}, 0 ≤ x ∧ x < s → 0 ≤ sem r x ∧ sem r x < s
  | [], _, x, hx => hx
  | p :: r, h, x, hx => by
    rw [sem_cons]
    exact sem_in (fun q hq => h q (.tail _ hq)) (mv_in (h p (.head _)) hx)
theorem sem_rt {s k : Int} : ∀ {r : List (Int × Int)}, OkR s r → ∀ {x : Int}, 0 ≤ x ∧ x < s → sem (r.map (rt s k)) ((x + k) % s) = (sem r x + k) % s
  | [], _, x, _ => rfl
  | p :: r, h, x, hx => by
    rw [List.map_cons, sem_cons, sem_cons, mv_rt (h p (.head _)) hx]
    exact sem_rt (fun q hq => h q (.tail _ hq)) (mv_in (h p (.head _)) hx)
/-- moves every place on by one -/
def Rnd (s : Int) (r : List (Int × Int)) : Prop := ∀ x, 0 ≤ x ∧ x < s → sem r x = (x + 1) % s
theorem rnd_rt {s k : Int} {r : List (Int × Int)} (hs : 0 < s) (ok : OkR s r) (h : Rnd s r) : Rnd s (r.map (rt s k)) := by
  intro y hy
  have hx := rot_in hs (y - k)
  have e : ((y - k) % s + k) % s = y := by
    rw [Int.emod_add_emod, show y - k + k = y by omega]
    exact Int.emod_eq_of_lt hy.1 hy.2
  have q := sem_rt (k := k) ok hx
  rw [e, h _ hx] at q
  rw [q, Int.emod_add_emod]
  rw [show (y - k) % s + 1 + k = (y - k) % s + (1 + k) by omega, Int.emod_add_emod]
  congr 1
  omega
theorem rnd_roll {s : Int} {p : Int × Int} {t : List (Int × Int)} (ok : OkR s (p :: t)) (h : Rnd s (p :: t)) : Rnd s (t ++ [rt s 1 p]) := by
  intro y hy
  have hp : Ok s p := ok p (.head _)
  have hx := mv_in hp hy
  rw [sem_app]
  have e1 := h _ hx
  rw [sem_cons, mv_mv hp.ne] at e1
  rw [e1]
  show mv (rt s 1 p) ((mv p y + 1) % s) = _
  rw [mv_rt hp hx, mv_mv hp.ne]
theorem cyc_at {s : Int} (hs : 2 ≤ s ∧ s ≤ 6) : cyc s = (List.range s.toNat).map fun i => (((i : Nat) : Int) + 1) % s := by
  have : s = 2 ∨ s = 3 ∨ s = 4 ∨ s = 5 ∨ s = 6 := by omega
  rcases this with rfl | rfl | rfl | rfl | rfl <;> decide
theorem rnd_iff {s : Int} (hs : 2 ≤ s ∧ s ≤ 6) (r : List (Int × Int)) : resL s r = cyc s ↔ Rnd s r := by
  rw [cyc_at hs]
  unfold resL
  constructor
  · intro e x hx
    have := congrArg (fun l => l[x.toNat]?) e
    simp only [List.getElem?_map] at this
    rw [List.getElem?_range (by omega)] at this
    simp only [Option.map_some, Option.some.injEq] at this
    rw [show ((x.toNat : Nat) : Int) = x by omega] at this
    exact this
  · intro h
    apply List.map_congr_left
    intro i hi
    rw [List.mem_range] at hi
    exact h _ (by omega)
section
variable {T : Tb} {n : Nat} {w : Om}
theorem lisr_ok (h : T i__law_to = some f__law_to) (h2 : T i__law_result = some f__law_result) (h3 : T i__law_is_round = some f__law_is_round) (s : Int) (hs : 2 ≤ s ∧ s ≤ 6) (r : List (Int × Int)) :
    run T (n + 3) i__law_is_round [.int s, dR r] w = some (.val (.bool (decide (resL s r = cyc s))), w) := by
  rw [run_at h3 rfl (by decide)]
  have hi : inR s = true := by unfold inR; simp; omega
  have hc : dComp (iRng (dCons (dVar 0) dNil)) (.nm 2) none (dPrim .mod (dCons (dPrim .add (dCons (dVar 2) (dCons (dC (.int 1)) dNil))) (dCons (dVar 0) dNil))) [2] (run T (n + 2)) [some (.int s), some (dR r), none] w = some (.val (.list ((cyc s).map .int)), w) := by
    rw [dComp_map (fun i : Nat => .int ((((i : Nat) : Int) + 1) % s)) (fun i : Nat => .int (i : Nat)) (List.range s.toNat) (by
      rw [e_iRng1 _ _ _ _ s (by simp) hi]
      unfold rangeD
      rw [Int.sub_zero]
      simp) (fun i _ => ⟨_, rfl, by simp [wipeR, mod_pos (show 0 < s by omega)], rfl⟩) (by rw [List.length_range]; unfold zL; omega)]
    rw [cyc_at hs, List.map_map]; rfl
  simp [f__law_is_round, b__law_is_round, fin, lresult_ok h h2 s (by omega) r, hc, eqP_ints]
/-- [(x + k) % s for x in p] -/
theorem rt_list {c : Cf} {r : Env} {p : Int × Int} {s k : Int} {src : Exs} {j b : Nat} {ek : Ex} (hs : 0 < s) (hsrc : src c r w = some (.vals [.int p.1, .int p.2], w)) (hj : j < r.length) (hb : r[b]? = some (some (.int s))) (hbj : b ≠ j) (hk : ∀ x : Int, ek c ((r.set j none).set j (some (.int x))) w = some (.val (.int k), w)) :
    dComp src (.nm j) none (dPrim .mod (dCons (dPrim .add (dCons (dVar j) (dCons ek dNil))) (dCons (dVar b) dNil))) [j] c r w = some (.val (.list [.int ((p.1 + k) % s), .int ((p.2 + k) % s)]), w) := by
  rw [dComp_map (fun x => .int ((x + k) % s)) .int [p.1, p.2] hsrc (fun x hx => ⟨_, rfl, ?_, rfl⟩) (show 2 ≤ zL by decide)]
  · rfl
  · have hk2 : j < ((r.set j none)).length := by rw [List.length_set]; exact hj
    have e1 : ((r.set j none).set j (some (.int x)))[b]? = some (some (.int s)) := by
      rw [List.getElem?_set_ne (fun z => hbj z.symm), List.getElem?_set_ne (fun z => hbj z.symm)]; exact hb
    have e2 : ((r.set j none).set j (some (.int x)))[j]? = some (some (.int x)) := List.getElem?_set_self hk2
    simp only [wipeR, e_dPrim, e_dCons, e_dVar, e_dNil, e1, e2, hk, p_add, addP_int, Option.map_some, p_mod, mod_pos hs]
theorem cround_ok (h : T i_in_range = some f_in_range) (h1 : T i_check_size = some f_check_size) (h2 : T i_is_exchange = some f_is_exchange) (h3 : T i_are_exchanges = some f_are_exchanges) (h4 : T i_check_list = some f_check_list) (h5 : T i_moved = some f_moved) (h6 : T i_result_of = some f_result_of) (h7 : T i_is_round_list = some f_is_round_list) (h8 : T i_check_round = some f_check_round)
    (s : Int) (hs : 2 ≤ s ∧ s ≤ 6) (r : List (Int × Int)) (ok : OkR s r) (hl : (r.length : Int) = s - 1) :
    run T (n + 5) i_check_round [.int s, dR r] w = some (if resL s r = cyc s then .val .none else .exc ⟨7, .none⟩, w) := by
  rw [run_at h8 rfl (by decide)]
  by_cases hc : resL s r = cyc s <;> simp [f_check_round, b_check_round, fin, clist_ok h h1 h2 h3 h4 s hs r ok hl, rndl_ok h5 h6 h7 s (by omega) r, hc]
end
end Rx

set_option linter.all false
set_option maxRecDepth 100000
set_option autoImplicit false
namespace Rx
open PySem
/-! ### answers -/
def dA (a : Int × Int × Int) : D := .tuple [.int a.1, .int a.2.1, .int a.2.2]
def OkA (s : Int) (a : Int × Int × Int) : Prop := (0 ≤ a.1 ∧ a.1 ≤ s - 1) ∧ (0 ≤ a.2.1 ∧ a.2.1 ≤ s - 1) ∧ (0 ≤ a.2.2 ∧ a.2.2 ≤ s - 1)
theorem forGo_app {c : Cf} {tg : Tg} {body : Sx} : ∀ (xs ys : List D) (r r' : Env) (w w' : Om), forGo c tg body xs r w = some (.next r', w') → forGo c tg body (xs ++ ys) r w = forGo c tg body ys r' w'
  | [], ys, r, r', w, w', h => by rw [forGo] at h; cases h; rfl
  | x :: xs, ys, r, r', w, w', h => by
    rw [List.cons_append, forGo]
    rw [forGo] at h
    cases hb : bindT tg x r with
    | none => rw [hb] at h; cases h
    | some r1 =>
      rw [hb] at h
      simp only at h ⊢
      cases hq : body c r1 w with
      | none => rw [hq] at h; cases h
      | some pr =>
        obtain ⟨o, w1⟩ := pr
        rw [hq] at h
        cases o with
        | next r2 => simp only at h ⊢; exact forGo_app xs ys r2 r' w1 w' h
        | ret d => cases h
        | exc x r2 => cases h
section
variable {T : Tb} {n : Nat} {w : Om}
theorem pa_ok (h : T i_moved = some f_moved) (h2 : T i_place_after = some f_place_after) (r : List (Int × Int)) (k : Nat) (x : Int) : run T (n + 2) i_place_after [dR r, .int (k : Nat), .int x] w = some (.val (.int (sem (r.take k) x)), w) := by
  rw [run_at h2 rfl (by decide)]
  have go : ∀ (q : List (Int × Int)) (y : Int) (o : Option D), ∃ o', forGo (run T (n + 1)) (.nm 4) (sAsg 3 (dCall 7 (dCons (dVar 4) (dCons (dVar 3) dNil)))) (q.map pr) [some (dR r), some (.int (k : Nat)), some (.int x), some (.int y), o] w = some (.next [some (dR r), some (.int (k : Nat)), some (.int x), some (.int (sem q y)), o'], w) := by
    intro q
    induction q with
    | nil => intro y o; exact ⟨o, rfl⟩
    | cons p q ih =>
      intro y o
      obtain ⟨o', e⟩ := ih (mv p y) (some (pr p))
      refine ⟨o', ?_⟩
      rw [List.map_cons, forGo]
      simp [bindT, moved_ok h]
      exact e
  obtain ⟨o', e⟩ := go (r.take k) x none
  have s1 : slH (dR r) (.int (k : Nat)) = some (dR (r.take k)) := by unfold dR; rw [slH_nat, List.map_take]
  have it : items (dR (r.take k)) = some ((r.take k).map pr) := rfl
  simp [f_place_after, b_place_after, fin, s1]
  rw [it]
  simp only [Option.map_some]
  rw [e]
  simp
def caB : Sx := sSeq (sIf (dOr (dNot (dPrim .isTuple (dCons (dVar 2) dNil))) (dPrim .ne (dCons (dPrim .len (dCons (dVar 2) dNil)) (dCons (dC (.int 3)) dNil))))
    (sRaise 6)
    sPass)
    (sIf (dComp (iSeq (dVar 2)) (.nm 3) (some (dNot (dCall 1 (dCons (dVar 3) (dCons (dC (.int 0)) (dCons (dPrim .sub (dCons (dVar 0) (dCons (dC (.int 1)) dNil))) dNil)))))) (dVar 3) [3])
    (sRaise 6)
    sPass)
/-- is a part of an answer in range -/
def inA (s : Int) : D → Bool
  | .int i => decide (0 ≤ i ∧ i ≤ s - 1)
  | _ => false
theorem inA_run (h : T i_in_range = some f_in_range) (s : Int) (d : D) (hd : (∃ i, d = .int i) ∨ d = .none ∨ ∃ b, d = .bool b) : run T (n + 1) i_in_range [d, .int 0, .int (s - 1)] w = some (.val (.bool (inA s d)), w) := by
  rcases hd with ⟨i, rfl⟩ | rfl | ⟨b, rfl⟩
  · exact inr_int h i 0 (s - 1)
  · exact inr_none h 0 (s - 1)
  · exact inr_bool h b 0 (s - 1)
theorem caB_three (h : T i_in_range = some f_in_range) (s : Int) (ds : D) (d1 d2 d3 : D) (hd : ∀ d ∈ [d1, d2, d3], (∃ i, d = .int i) ∨ d = .none ∨ ∃ b, d = .bool b) (hp : ∀ d ∈ [d1, d2, d3], plain d = true) :
    caB (run T (n + 1)) [some (.int s), some ds, some (.tuple [d1, d2, d3]), none] w = some (if (inA s d1 && inA s d2 && inA s d3) = true then .next [some (.int s), some ds, some (.tuple [d1, d2, d3]), none] else .exc ⟨6, .none⟩ [some (.int s), some ds, some (.tuple [d1, d2, d3]), none], w) := by
  have hc : dComp (iSeq (dVar 2)) (.nm 3) (some (dNot (dCall 1 (dCons (dVar 3) (dCons (dC (.int 0)) (dCons (dPrim .sub (dCons (dVar 0) (dCons (dC (.int 1)) dNil))) dNil)))))) (dVar 3) [3] (run T (n + 1)) [some (.int s), some ds, some (.tuple [d1, d2, d3]), none] w = some (.val (.list (([d1, d2, d3].filter fun d => !inA s d).map id)), w) := by
    refine dComp_filter (fun d => !inA s d) id id [d1, d2, d3] (by simp) (fun d hm => ⟨_, rfl, ?_, fun _ => ⟨by simp [wipeR], hp d hm⟩⟩) (show 3 ≤ zL by decide)
    have := inA_run (T := T) (n := n) (w := w) h s d (hd d hm)
    simp [wipeR, this]
  have e1 : tstP isTup (.tuple [d1, d2, d3]) = some (.bool true) := rfl
  have e2 : lenP (.tuple [d1, d2, d3]) = some (.int 3) := rfl
  simp [caB, e1, e2, hc]
  cases h1 : inA s d1 <;> cases h2 : inA s d2 <;> cases h3 : inA s d3 <;> simp [List.filter, h1, h2, h3]
theorem ca_loop (h : T i_in_range = some f_in_range) (s : Int) (ds : D) : ∀ (l : List (Int × Int × Int)), (∀ a ∈ l, OkA s a) → ∀ o : Option D, ∃ o', forGo (run T (n + 1)) (.nm 2) caB (l.map dA) [some (.int s), some ds, o, none] w = some (.next [some (.int s), some ds, o', none], w)
  | [], _, o => ⟨o, rfl⟩
  | a :: l, hl, o => by
    obtain ⟨o', e⟩ := ca_loop h s ds l (fun b hb => hl b (.tail _ hb)) (some (dA a))
    refine ⟨o', ?_⟩
    have q := caB_three (T := T) (n := n) (w := w) h s ds (.int a.1) (.int a.2.1) (.int a.2.2) (fun d hd => by simp at hd; rcases hd with rfl | rfl | rfl <;> exact .inl ⟨_, rfl⟩) (fun d hd => by simp at hd; rcases hd with rfl | rfl | rfl <;> rfl)
    have ha := hl a (.head _)
    have t : (inA s (.int a.1) && inA s (.int a.2.1) && inA s (.int a.2.2)) = true := by
      simp [inA]; exact ⟨⟨ha.1, ha.2.1⟩, ha.2.2⟩
    rw [if_pos t] at q
    rw [List.map_cons, forGo]
    show (match caB (run T (n + 1)) [some (.int s), some ds, some (.tuple [.int a.1, .int a.2.1, .int a.2.2]), none] w with
      | none => none
      | some (.next r2, w2) => forGo (run T (n + 1)) (.nm 2) caB (l.map dA) r2 w2
      | some (.ret d, w2) => some (.ret d, w2)
      | some (.exc x r2, w2) => some (.exc x r2, w2)) = _
    rw [q]
    exact e
theorem ca_ok (h : T i_in_range = some f_in_range) (h2 : T i_check_answers = some f_check_answers) (s : Int) (hs : 2 ≤ s ∧ s ≤ 5) (l : List (Int × Int × Int)) (hl : ∀ a ∈ l, OkA s a) : run T (n + 2) i_check_answers [.int s, .tuple (l.map dA)] w = some (.val .none, w) := by
  obtain ⟨o', e⟩ := ca_loop (T := T) (n := n) (w := w) h s (.tuple (l.map dA)) l hl none
  have e1 : tstP isTup (.tuple (l.map dA)) = some (.bool true) := rfl
  rw [run_at h2 rfl (by decide)]
  unfold caB at e
  simp [f_check_answers, b_check_answers, fin, inr_int h, hs, e1, e]
theorem ca_bad (h : T i_in_range = some f_in_range) (h2 : T i_check_answers = some f_check_answers) (s : Int) (hs : 2 ≤ s ∧ s ≤ 5) (l : List (Int × Int × Int)) (hl : ∀ a ∈ l, OkA s a) (d : D)
    (hd : ∀ (ds : D) (o : Option D), ∃ r, caB (run T (n + 1)) [some (.int s), some ds, some d, none] w = some (.exc ⟨6, .none⟩ r, w)) : run T (n + 2) i_check_answers [.int s, .tuple (l.map dA ++ [d])] w = some (.exc ⟨6, .none⟩, w) := by
  obtain ⟨o', e⟩ := ca_loop (T := T) (n := n) (w := w) h s (.tuple (l.map dA ++ [d])) l hl none
  obtain ⟨r, er⟩ := hd (.tuple (l.map dA ++ [d])) none
  have e1 : tstP isTup (.tuple (l.map dA ++ [d])) = some (.bool true) := rfl
  have e2 : forGo (run T (n + 1)) (.nm 2) caB (l.map dA ++ [d]) [some (.int s), some (.tuple (l.map dA ++ [d])), none, none] w = some (.exc ⟨6, .none⟩ r, w) := by
    rw [forGo_app _ _ _ _ _ _ e, forGo]
    simp only [bindT, List.set_cons_succ, List.set_cons_zero]
    rw [er]
  rw [run_at h2 rfl (by decide)]
  unfold caB at e2
  simp [f_check_answers, b_check_answers, fin, inr_int h, hs, e1, e2]
end
end Rx

set_option Elab.async false
set_option linter.all false
set_option maxRecDepth 100000
set_option autoImplicit false
namespace Rx
open PySem
/-! ### all orders -/
def insAll (x : Int) : List Int → List (List Int)
  | [] => [[x]]
  | y :: ys => (x :: y :: ys) :: (insAll x ys).map (y :: ·)
def permsOf : List Int → List (List Int)
  | [] => [[]]
  | x :: xs => (permsOf xs).flatMap (insAll x)
def rngI (n : Nat) : List Int := (List.range n).map fun i => ((i : Nat) : Int)
theorem insAll_mem (x : Int) : ∀ a b : List Int, a ++ x :: b ∈ insAll x (a ++ b)
  | [], [] => by simp [insAll]
  | [], y :: b => by simp [insAll]
  | z :: a, b => by
    rw [List.cons_append, List.cons_append]
    unfold insAll
    exact .tail _ (List.mem_map.mpr ⟨_, insAll_mem x a b, rfl⟩)
theorem permsOf_mem : ∀ {xs l : List Int}, l.Perm xs → l ∈ permsOf xs
  | [], l, h => by rw [h.eq_nil]; simp [permsOf]
  | x :: xs, l, h => by
    have hx : x ∈ l := h.mem_iff.mpr (.head _)
    obtain ⟨a, b, rfl⟩ := List.append_of_mem hx
    have h2 : (a ++ b).Perm xs := (List.perm_middle.symm.trans h).cons_inv
    unfold permsOf
    exact List.mem_flatMap.mpr ⟨_, permsOf_mem h2, insAll_mem x a b⟩
theorem sem_inj {s : Int} : ∀ {r : List (Int × Int)}, OkR s r → ∀ {x y : Int}, sem r x = sem r y → x = y
  | [], _, _, _, e => e
  | p :: r, h, x, y, e => by
    rw [sem_cons, sem_cons] at e
    exact mv_inj (h p (.head _)).ne (sem_inj (fun q hq => h q (.tail _ hq)) e)
theorem nodup_sub_perm : ∀ {l m : List Int}, l.Nodup → (∀ x ∈ l, x ∈ m) → m.length ≤ l.length → l.Perm m
  | [], m, _, _, h => by
    have : m = [] := List.eq_nil_of_length_eq_zero (by simpa using h)
    rw [this]
  | x :: l, m, hn, hs, h => by
    obtain ⟨h1, h2⟩ := List.nodup_cons.mp hn
    obtain ⟨a, b, rfl⟩ := List.append_of_mem (hs x (.head _))
    have := nodup_sub_perm (l := l) (m := a ++ b) h2 (fun y hy => by
      have hne : y ≠ x := fun e => h1 (e ▸ hy)
      have := hs y (.tail _ hy)
      simp only [List.mem_append, List.mem_cons] at this ⊢
      rcases this with z | z | z
      · exact .inl z
      · exact absurd z hne
      · exact .inr z) (by simp at h ⊢; omega)
    exact (this.cons x).trans List.perm_middle.symm
theorem rngI_nodup (n : Nat) : (rngI n).Nodup := by
  unfold rngI
  refine List.Pairwise.map _ (fun a b h e => h ?_) List.nodup_range
  omega
theorem mem_rngI {n : Nat} {x : Int} : x ∈ rngI n ↔ 0 ≤ x ∧ x < n := by
  unfold rngI
  simp only [List.mem_map, List.mem_range]
  constructor
  · rintro ⟨i, hi, rfl⟩; omega
  · intro h; exact ⟨x.toNat, by omega, by omega⟩
theorem resL_perm {s : Nat} {r : List (Int × Int)} (ok : OkR s r) : resL s r ∈ permsOf (rngI s) := by
  apply permsOf_mem
  have e : resL s r = (rngI s).map (sem r) := by unfold resL rngI; rw [List.map_map]; rfl
  rw [e]
  refine nodup_sub_perm ?_ (fun x hx => ?_) (by rw [List.length_map]; exact Nat.le_refl _)
  · exact List.Pairwise.map _ (fun a b h e => h (sem_inj ok e)) (rngI_nodup s)
  · obtain ⟨y, hy, rfl⟩ := List.mem_map.mp hx
    rw [mem_rngI] at hy ⊢
    exact sem_in ok hy
/-! ### groups, of where each place is moved -/
def orb (ms : List Int) : Nat → Int → List Int
  | 0, _ => []
  | n + 1, x => x :: orb ms n (ms.getD x.toNat 0)
def grp (s : Nat) (ms : List Int) : List (List Int) := (rngI s).filterMap fun x => if (orb ms s x).all (fun y => decide (x ≤ y)) then some ((rngI s).filter fun y => (orb ms s x).any (· == y)) else none
def dG (g : List (List Int)) : D := .list (g.map fun x => .tuple (x.map .int))
def AtG (s : Nat) : Prop := ∀ ms ∈ permsOf (rngI s), ∀ (c : Cf) (row : Option D) (w : Om), t_groups_of c [some (.int s), row, some (dX ms), none, none, none] w = some (.ret (dG (grp s ms)), w)
def AtL (s : Nat) : Prop := ∀ ms ∈ permsOf (rngI s), ∀ (c : Cf) (row : Option D) (w : Om), t__law_groups c [some (.int s), row, some (.tuple (ms.map .int)), none, none, none, none, none, none] w = some (.ret (dG (grp s ms)), w)
theorem map_all {α β : Type} {f g : α → β} {l : List α} (h : l.map f = l.map g) : ∀ x ∈ l, f x = g x := List.map_inj_left.mp h
def fG (s : Nat) (c : Cf) (row : Option D) (w : Om) (ms : List Int) : Option (Out × Om) := t_groups_of c [some (.int s), row, some (dX ms), none, none, none] w
def fL (s : Nat) (c : Cf) (row : Option D) (w : Om) (ms : List Int) : Option (Out × Om) := t__law_groups c [some (.int s), row, some (.tuple (ms.map .int)), none, none, none, none, none, none] w
def oG (s : Nat) (w : Om) (ms : List Int) : Option (Out × Om) := some (.ret (dG (grp s ms)), w)
theorem kg2 (c : Cf) (row : Option D) (w : Om) : (permsOf (rngI 2)).map (fG 2 c row w) = (permsOf (rngI 2)).map (oG 2 w) := by kernel_rfl
theorem kl2 (c : Cf) (row : Option D) (w : Om) : (permsOf (rngI 2)).map (fL 2 c row w) = (permsOf (rngI 2)).map (oG 2 w) := by kernel_rfl
theorem kg3 (c : Cf) (row : Option D) (w : Om) : (permsOf (rngI 3)).map (fG 3 c row w) = (permsOf (rngI 3)).map (oG 3 w) := by kernel_rfl
theorem kl3 (c : Cf) (row : Option D) (w : Om) : (permsOf (rngI 3)).map (fL 3 c row w) = (permsOf (rngI 3)).map (oG 3 w) := by kernel_rfl
theorem kg4 (c : Cf) (row : Option D) (w : Om) : (permsOf (rngI 4)).map (fG 4 c row w) = (permsOf (rngI 4)).map (oG 4 w) := by kernel_rfl
theorem kl4 (c : Cf) (row : Option D) (w : Om) : (permsOf (rngI 4)).map (fL 4 c row w) = (permsOf (rngI 4)).map (oG 4 w) := by kernel_rfl
theorem kg5 (c : Cf) (row : Option D) (w : Om) : (permsOf (rngI 5)).map (fG 5 c row w) = (permsOf (rngI 5)).map (oG 5 w) := by kernel_rfl
theorem kl5 (c : Cf) (row : Option D) (w : Om) : (permsOf (rngI 5)).map (fL 5 c row w) = (permsOf (rngI 5)).map (oG 5 w) := by kernel_rfl
def ch6 (i : Nat) : List (List Int) := ((permsOf (rngI 6)).drop (30 * i)).take 30
theorem in_chunk {α : Type} {l : List α} {x : α} {k m : Nat} (hk : 0 < k) (hl : l.length ≤ k * m) (h : x ∈ l) : ∃ i, i < m ∧ x ∈ (l.drop (k * i)).take k := by
  obtain ⟨j, hj, e⟩ := List.getElem_of_mem h
  have hd : k * (j / k) + j % k = j := Nat.div_add_mod j k
  have hm : j % k < k := Nat.mod_lt _ hk
  refine ⟨j / k, Nat.div_lt_of_lt_mul (by omega), ?_⟩
  refine List.mem_of_getElem? (i := j % k) ?_
  rw [List.getElem?_take_of_lt hm, List.getElem?_drop, hd, List.getElem?_eq_getElem hj, e]
theorem p6_len : (permsOf (rngI 6)).length ≤ 30 * 24 := by decide +kernel
end Rx

set_option Elab.async false
set_option linter.all false
set_option maxRecDepth 100000
set_option autoImplicit false
namespace Rx
open PySem
section
variable {T : Tb} {n : Nat} {w : Om}
theorem cpart_ok (h : T i_in_range = some f_in_range) (h1 : T i_check_size = some f_check_size) (h2 : T i_is_exchange = some f_is_exchange) (h3 : T i_are_exchanges = some f_are_exchanges) (h4 : T i_check_part = some f_check_part) (s : Int) (hs : 2 ≤ s ∧ s ≤ 6) (r : List (Int × Int)) (ok : OkR s r) (hl : (r.length : Int) ≤ s - 1) :
    run T (n + 4) i_check_part [.int s, dR r] w = some (.val .none, w) := by
  rw [run_at h4 rfl (by decide)]
  have hz : r.length ≤ zL := by unfold zL; omega
  simp [f_check_part, b_check_part, fin, csize_ok h h1 s hs, arex_ok h h2 h3 s (s - 1) r ok hl hz]
theorem res_ok (h : T i_in_range = some f_in_range) (h1 : T i_check_size = some f_check_size) (h2 : T i_is_exchange = some f_is_exchange) (h3 : T i_are_exchanges = some f_are_exchanges) (h4 : T i_check_part = some f_check_part) (h5 : T i_moved = some f_moved) (h6 : T i_result_of = some f_result_of) (h7 : T i_result = some f_result)
    (s : Int) (hs : 2 ≤ s ∧ s ≤ 6) (r : List (Int × Int)) (ok : OkR s r) (hl : (r.length : Int) ≤ s - 1) :
    run T (n + 5) i_result [.int s, dR r] w = some (.val (dX (resL s r)), w) := by
  rw [run_at h7 rfl (by decide)]
  simp [f_result, b_result, fin, cpart_ok h h1 h2 h3 h4 s hs r ok hl, result_ok h5 h6 s (by omega) r]
theorem grpo_ok {s : Nat} (at_ : AtG s) (hs : 2 ≤ s ∧ s ≤ 6) (h5 : T i_moved = some f_moved) (h6 : T i_result_of = some f_result_of) (h7 : T i_groups_of = some f_groups_of) (r : List (Int × Int)) (ok : OkR s r) :
    run T (n + 3) i_groups_of [.int s, dR r] w = some (.val (dG (grp s (resL s r))), w) := by
  rw [run_at h7 rfl (by decide)]
  have e := at_ _ (resL_perm ok) (run T (n + 2)) (some (dR r)) w
  simp [f_groups_of, b_groups_of, result_ok h5 h6 (s : Int) (by omega) r]
  rw [e]
  rfl
theorem lgrp_ok {s : Nat} (at_ : AtL s) (hs : 2 ≤ s ∧ s ≤ 6) (h5 : T i__law_to = some f__law_to) (h6 : T i__law_result = some f__law_result) (h7 : T i__law_groups = some f__law_groups) (r : List (Int × Int)) (ok : OkR s r) :
    run T (n + 3) i__law_groups [.int s, dR r] w = some (.val (dG (grp s (resL s r))), w) := by
  rw [run_at h7 rfl (by decide)]
  have e := at_ _ (resL_perm ok) (run T (n + 2)) (some (dR r)) w
  simp [f__law_groups, b__law_groups, lresult_ok h5 h6 (s : Int) (by omega) r]
  rw [e]
  rfl
theorem shal_dG (n : Nat) (g : List (List Int)) : shal (n + 2) (dG g) = true := by
  unfold dG shal
  rw [List.all_map]
  refine List.all_eq_true.mpr fun x _ => ?_
  exact shal_ints n x
theorem OkR.take {s : Int} {r : List (Int × Int)} (h : OkR s r) (k : Nat) : OkR s (r.take k) := fun p hp => h p (List.mem_of_mem_take hp)
theorem OkR.drop {s : Int} {r : List (Int × Int)} (h : OkR s r) (k : Nat) : OkR s (r.drop k) := fun p hp => h p (List.mem_of_mem_drop hp)
theorem slH_dR (r : List (Int × Int)) (k : Nat) : slH (dR r) (.int (k : Nat)) = some (dR (r.take k)) := by
  unfold dR; rw [slH_nat, List.map_take]
theorem slL_dR (r : List (Int × Int)) (k : Nat) : slL (dR r) (.int (k : Nat)) = some (dR (r.drop k)) := by
  unfold dR; rw [slL_nat, List.map_drop]
theorem grps_ok {s : Nat} (at_ : AtG s) (hs : 2 ≤ s ∧ s ≤ 6) (h : T i_in_range = some f_in_range) (h1 : T i_check_size = some f_check_size) (h2 : T i_is_exchange = some f_is_exchange) (h3 : T i_are_exchanges = some f_are_exchanges) (h4 : T i_check_part = some f_check_part) (h5 : T i_moved = some f_moved) (h6 : T i_result_of = some f_result_of) (h7 : T i_groups_of = some f_groups_of) (h8 : T i_groups = some f_groups)
    (r : List (Int × Int)) (ok : OkR s r) (hl : (r.length : Int) ≤ s - 1) (k : Nat) (hk : k ≤ r.length) :
    run T (n + 5) i_groups [.int s, dR r, .int (k : Nat)] w = some (.val (dG (grp s (resL s (r.take k)))), w) := by
  rw [run_at h8 rfl (by decide)]
  have e1 := cpart_ok (T := T) (n := n) (w := w) h h1 h2 h3 h4 (s : Int) (by omega) r ok hl
  have e2 := inr_int (T := T) (n := n + 3) (w := w) h (k : Nat) 0 (r.length : Nat)
  have e3 := grpo_ok (T := T) (n := n + 1) (w := w) at_ hs h5 h6 h7 (r.take k) (ok.take k)
  have e4 : (0 ≤ ((k : Nat) : Int) ∧ ((k : Nat) : Int) ≤ (r.length : Nat)) := by omega
  simp only [e4, decide_true] at e2
  simp [f_groups, b_groups, fin, e1, e2, e3, lenP_dR, slH_dR]
theorem grps_no {s : Nat} (hs : 2 ≤ s ∧ s ≤ 6) (h : T i_in_range = some f_in_range) (h1 : T i_check_size = some f_check_size) (h2 : T i_is_exchange = some f_is_exchange) (h3 : T i_are_exchanges = some f_are_exchanges) (h4 : T i_check_part = some f_check_part) (h8 : T i_groups = some f_groups)
    (r : List (Int × Int)) (ok : OkR s r) (hl : (r.length : Int) ≤ s - 1) (d : D) (hd : d = .none ∨ d = .bool true ∨ ∃ k : Int, d = .int k ∧ ¬ (0 ≤ k ∧ k ≤ r.length)) :
    run T (n + 5) i_groups [.int s, dR r, d] w = some (.exc ⟨4, .none⟩, w) := by
  rw [run_at h8 rfl (by decide)]
  have e1 := cpart_ok (T := T) (n := n) (w := w) h h1 h2 h3 h4 (s : Int) (by omega) r ok hl
  rcases hd with rfl | rfl | ⟨k, rfl, hk⟩
  · have e2 := inr_none (T := T) (n := n + 3) (w := w) h 0 (r.length : Nat)
    simp [f_groups, b_groups, fin, e1, e2, lenP_dR]
  · have e2 := inr_bool (T := T) (n := n + 3) (w := w) h true 0 (r.length : Nat)
    simp [f_groups, b_groups, fin, e1, e2, lenP_dR]
  · have e2 := inr_int (T := T) (n := n + 3) (w := w) h k 0 (r.length : Nat)
    simp only [hk, decide_false] at e2
    simp [f_groups, b_groups, fin, e1, e2, lenP_dR]
end
end Rx

set_option Elab.async false
set_option linter.all false
set_option maxRecDepth 100000
set_option autoImplicit false
namespace Rx
open PySem
/-! ### what is left to be moved, of where each place is moved -/
def ndL (s : Nat) (ms : List Int) : List Int := (rngI s).map fun p => (((ms.idxOf p : Nat) : Int) + 1) % s
def cycL (f : List Int) (x : Int) : Nat → Int → List Int
  | 0, _ => []
  | n + 1, y => y :: (if f.getD y.toNat 0 = x then [] else cycL f x n (f.getD y.toNat 0))
def rgrp (s : Nat) (ms : List Int) : List (List Int) := (rngI s).filterMap fun x => if (orb (ndL s ms) s x).all (fun y => decide (x ≤ y)) then some (cycL (ndL s ms) x s x) else none
def nc (s : Nat) (ms : List Int) : Nat := (rgrp s ms).length
def stepOk (s : Nat) (ms : List Int) : Bool := (pairsL s).all fun e => Nat.ble (nc s (ms.map (mv e))) (nc s ms + 1)
def fR (s : Nat) (c : Cf) (row : Option D) (w : Om) (ms : List Int) : Option (Out × Om) := t_rest_groups c [some (.int s), row, some (dX ms), none, none, none, none, none, none] w
def dLL (g : List (List Int)) : D := .list (g.map fun x => .list (x.map .int))
def oR (s : Nat) (w : Om) (ms : List Int) : Option (Out × Om) := some (.ret (dLL (rgrp s ms)), w)
end Rx

set_option Elab.async false
set_option linter.all false
set_option maxRecDepth 100000
set_option autoImplicit false
namespace Rx
open PySem
theorem st2 : (permsOf (rngI 2)).all (stepOk 2) = true := by decide +kernel
theorem st3 : (permsOf (rngI 3)).all (stepOk 3) = true := by decide +kernel
theorem st4 : (permsOf (rngI 4)).all (stepOk 4) = true := by decide +kernel
theorem st5 : (permsOf (rngI 5)).all (stepOk 5) = true := by decide +kernel
theorem st6_0 : (ch6 0).all (stepOk 6) = true := by decide +kernel
theorem st6_1 : (ch6 1).all (stepOk 6) = true := by decide +kernel
theorem st6_2 : (ch6 2).all (stepOk 6) = true := by decide +kernel
theorem st6_3 : (ch6 3).all (stepOk 6) = true := by decide +kernel
theorem st6_4 : (ch6 4).all (stepOk 6) = true := by decide +kernel
theorem st6_5 : (ch6 5).all (stepOk 6) = true := by decide +kernel
theorem st6_6 : (ch6 6).all (stepOk 6) = true := by decide +kernel
theorem st6_7 : (ch6 7).all (stepOk 6) = true := by decide +kernel
theorem st6_8 : (ch6 8).all (stepOk 6) = true := by decide +kernel
theorem st6_9 : (ch6 9).all (stepOk 6) = true := by decide +kernel
theorem st6_10 : (ch6 10).all (stepOk 6) = true := by decide +kernel
theorem st6_11 : (ch6 11).all (stepOk 6) = true := by decide +kernel
theorem st6_12 : (ch6 12).all (stepOk 6) = true := by decide +kernel
theorem st6_13 : (ch6 13).all (stepOk 6) = true := by decide +kernel
theorem st6_14 : (ch6 14).all (stepOk 6) = true := by decide +kernel
theorem st6_15 : (ch6 15).all (stepOk 6) = true := by decide +kernel
theorem st6_16 : (ch6 16).all (stepOk 6) = true := by decide +kernel
theorem st6_17 : (ch6 17).all (stepOk 6) = true := by decide +kernel
theorem st6_18 : (ch6 18).all (stepOk 6) = true := by decide +kernel
theorem st6_19 : (ch6 19).all (stepOk 6) = true := by decide +kernel
theorem st6_20 : (ch6 20).all (stepOk 6) = true := by decide +kernel
theorem st6_21 : (ch6 21).all (stepOk 6) = true := by decide +kernel
theorem st6_22 : (ch6 22).all (stepOk 6) = true := by decide +kernel
theorem st6_23 : (ch6 23).all (stepOk 6) = true := by decide +kernel
theorem st6 : ∀ i, i < 24 → (ch6 i).all (stepOk 6) = true
  | 0, _ => st6_0
  | 1, _ => st6_1
  | 2, _ => st6_2
  | 3, _ => st6_3
  | 4, _ => st6_4
  | 5, _ => st6_5
  | 6, _ => st6_6
  | 7, _ => st6_7
  | 8, _ => st6_8
  | 9, _ => st6_9
  | 10, _ => st6_10
  | 11, _ => st6_11
  | 12, _ => st6_12
  | 13, _ => st6_13
  | 14, _ => st6_14
  | 15, _ => st6_15
  | 16, _ => st6_16
  | 17, _ => st6_17
  | 18, _ => st6_18
  | 19, _ => st6_19
  | 20, _ => st6_20
  | 21, _ => st6_21
  | 22, _ => st6_22
  | 23, _ => st6_23
  | n + 24, h => by omega
theorem stAll : ∀ s : Nat, 2 ≤ s ∧ s ≤ 6 → ∀ ms ∈ permsOf (rngI s), stepOk s ms = true
  | 2, _ => fun ms hm => List.all_eq_true.mp st2 ms hm
  | 3, _ => fun ms hm => List.all_eq_true.mp st3 ms hm
  | 4, _ => fun ms hm => List.all_eq_true.mp st4 ms hm
  | 5, _ => fun ms hm => List.all_eq_true.mp st5 ms hm
  | 6, _ => fun ms hm => by
    obtain ⟨i, hi, hc⟩ := in_chunk (by decide) p6_len hm
    exact List.all_eq_true.mp (st6 i hi) ms hc
  | 0, h => by omega
  | 1, h => by omega
  | n + 7, h => by omega
theorem pairsL_in : ∀ {s : Nat}, 2 ≤ s ∧ s ≤ 6 → ∀ {p : Int × Int}, Ok s p → p ∈ pairsL s := by
  intro s hs p hp
  unfold Ok at hp
  unfold pairsL
  refine List.mem_flatMap.mpr ⟨p.1.toNat, List.mem_range.mpr (by omega), List.mem_map.mpr ⟨(p.2 - p.1 - 1).toNat, List.mem_range.mpr (by omega), ?_⟩⟩
  exact Prod.ext (by simp; omega) (by simp; omega)
theorem resL_snoc (s : Int) (r : List (Int × Int)) (e : Int × Int) : resL s (r ++ [e]) = (resL s r).map (mv e) := by
  unfold resL
  rw [List.map_map]
  refine List.map_congr_left fun i _ => ?_
  simp [sem_app, sem]
theorem nc_step {s : Nat} (hs : 2 ≤ s ∧ s ≤ 6) {r : List (Int × Int)} {e : Int × Int} (ok : OkR s r) (he : Ok s e) : nc s (resL s (r ++ [e])) ≤ nc s (resL s r) + 1 := by
  have h := stAll s hs _ (resL_perm ok)
  unfold stepOk at h
  have := List.all_eq_true.mp h e (pairsL_in hs he)
  rw [resL_snoc]
  exact Nat.le_of_ble_eq_true this
theorem nc_up {s : Nat} (hs : 2 ≤ s ∧ s ≤ 6) {r : List (Int × Int)} (ok : OkR s r) : ∀ (q : List (Int × Int)), OkR s q → nc s (resL s (r ++ q)) ≤ nc s (resL s r) + q.length
  | [], _ => by simp
  | e :: q, hq => by
    have h1 := nc_step hs ok (hq e (.head _))
    have ok2 : OkR s (r ++ [e]) := fun p hp => by
      rcases List.mem_append.mp hp with z | z
      · exact ok p z
      · rw [List.mem_singleton.mp z]; exact hq e (.head _)
    have h2 := nc_up hs ok2 q fun p hp => hq p (.tail _ hp)
    rw [List.append_assoc] at h2
    simp only [List.cons_append, List.nil_append] at h2
    rw [List.length_cons]
    omega
theorem nc_start : ∀ s : Nat, 2 ≤ s ∧ s ≤ 6 → nc s (resL s []) = 1
  | 2, _ => by decide +kernel
  | 3, _ => by decide +kernel
  | 4, _ => by decide +kernel
  | 5, _ => by decide +kernel
  | 6, _ => by decide +kernel
  | 0, h => by omega
  | 1, h => by omega
  | n + 7, h => by omega
theorem nc_end : ∀ s : Nat, 2 ≤ s ∧ s ≤ 6 → nc s (cyc s) = s
  | 2, _ => by decide +kernel
  | 3, _ => by decide +kernel
  | 4, _ => by decide +kernel
  | 5, _ => by decide +kernel
  | 6, _ => by decide +kernel
  | 0, h => by omega
  | 1, h => by omega
  | n + 7, h => by omega
/-- of a round list each exchange divides one group more -/
theorem nc_round {s : Nat} (hs : 2 ≤ s ∧ s ≤ 6) {r : List (Int × Int)} (ok : OkR s r) (hl : r.length + 1 = s) (hr : resL s r = cyc s) (k : Nat) (hk : k ≤ r.length) : nc s (resL s (r.take k)) = k + 1 := by
  have h1 := nc_up hs (r := []) (fun p hp => by cases hp) (r.take k) (ok.take k)
  have h2 := nc_up hs (ok.take k) (r.drop k) (ok.drop k)
  rw [List.take_append_drop, hr, nc_end s hs, List.length_drop] at h2
  rw [List.nil_append, nc_start s hs, List.length_take] at h1
  omega
end Rx

set_option Elab.async false
set_option linter.all false
set_option maxRecDepth 100000
set_option autoImplicit false
namespace Rx
open PySem
theorem cycL_len (f : List Int) (x : Int) : ∀ (n : Nat) (y : Int), (cycL f x n y).length ≤ n
  | 0, _ => Nat.le_refl _
  | n + 1, y => by
    unfold cycL
    split
    · simp
    · rw [List.length_cons]; exact Nat.succ_le_succ (cycL_len f x n _)
theorem rgrp_len {s : Nat} (hs : 1 ≤ s) {ms : List Int} {x : List Int} (h : x ∈ rgrp s ms) : 1 ≤ x.length ∧ x.length ≤ s := by
  unfold rgrp at h
  obtain ⟨y, hy, e⟩ := List.mem_filterMap.mp h
  split at e
  · cases e
    refine ⟨?_, cycL_len _ _ _ _⟩
    obtain ⟨m, rfl⟩ : ∃ m, s = m + 1 := ⟨s - 1, by omega⟩
    unfold cycL
    simp
  · cases e
section
variable {T : Tb} {n : Nat} {w : Om}
theorem rgrp_ok {s : Nat} (at_ : ∀ ms ∈ permsOf (rngI s), ∀ (c : Cf) (row : Option D) (w : Om), fR s c row w ms = oR s w ms) (hs : 2 ≤ s ∧ s ≤ 6) (h5 : T i_moved = some f_moved) (h6 : T i_result_of = some f_result_of) (h7 : T i_rest_groups = some f_rest_groups) (r : List (Int × Int)) (ok : OkR s r) :
    run T (n + 3) i_rest_groups [.int s, dR r] w = some (.val (dLL (rgrp s (resL s r))), w) := by
  rw [run_at h7 rfl (by decide)]
  have e := at_ _ (resL_perm ok) (run T (n + 2)) (some (dR r)) w
  unfold fR oR at e
  simp [f_rest_groups, b_rest_groups, result_ok h5 h6 (s : Int) (by omega) r]
  rw [e]
  rfl
def cpB : Sx := (sSeq (sAsg 6 (dC (.int 1)))
    (sSeq (sFor (iRng (dCons (dC (.int 2)) (dCons (dPrim .len (dCons (dVar 5) dNil)) dNil))) (.nm 4)
    (sSeq (sAug 3 .mul (dPrim .len (dCons (dVar 5) dNil)))
    (sAug 6 .mul (dVar 4))))
    (sAug 3 .fdiv (dVar 6))))
theorem lenP_ints (x : List Int) : lenP (.list (x.map .int)) = some (.int x.length) := by simp [lenP]
theorem mul_lit (i : Int) {j : Int} (h : small j = true) : mulP (.int i) (.int j) = some (.int (i * j)) := by simp [mulP, h]
theorem div_lit (i : Int) {j : Int} (h : 0 < j ∧ j < 1073741824) : fdivP (.int i) (.int j) = some (.int (i / j)) := by simp [fdivP, h]
theorem sAug_ev {c : Cf} {r : Env} {i : Nat} {p : Pr} {e : Ex} {a b v : Int} (h1 : r[i]? = some (some (.int a))) (h2 : e c r w = some (.val (.int b), w)) (h3 : prim p [.int a, .int b] = some (.int v)) : sAug i p e c r w = some (.next (r.set i (some (.int v))), w) := by
  unfold sAug
  rw [h1]
  simp only
  rw [h2]
  simp only
  rw [h3]
  rfl
theorem seq_next {a b : Sx} {c : Cf} {r r1 : Env} {w w1 : Om} (h : a c r w = some (.next r1, w1)) : sSeq a b c r w = b c r1 w1 := by
  unfold sSeq; rw [h]
theorem for_of {src : Exs} {tg : Tg} {body : Sx} {c : Cf} {r : Env} {w w1 : Om} {xs : List D} (h : src c r w = some (.vals xs, w1)) : sFor src tg body c r w = forGo c tg body xs r w1 := by
  unfold sFor; rw [h]
theorem forGo_cons {tg : Tg} {body : Sx} {c : Cf} {r r1 r2 : Env} {w w2 : Om} {x : D} {xs : List D} (h1 : bindT tg x r = some r1) (h2 : body c r1 w = some (.next r2, w2)) : forGo c tg body (x :: xs) r w = forGo c tg body xs r2 w2 := by
  rw [forGo, h1]
  simp only
  rw [h2]
def cpI : Sx := (sSeq (sAug 3 .mul (dPrim .len (dCons (dVar 5) dNil))) (sAug 6 .mul (dVar 4)))
theorem len5 {c : Cf} {r : Env} {x : List Int} (h5 : r[5]? = some (some (.list (x.map .int)))) : dPrim .len (dCons (dVar 5) dNil) c r w = some (.val (.int x.length), w) := by
  simp [h5, lenP_ints x]
theorem cpI_ok {c : Cf} {s0 r0 G : Option D} {x : List Int} (hx : small (x.length : Nat) = true) (R B k : Int) (hk : small k = true) :
    cpI c [s0, r0, G, some (.int R), some (.int k), some (.list (x.map .int)), some (.int B)] w = some (.next [s0, r0, G, some (.int (R * (x.length : Nat))), some (.int k), some (.list (x.map .int)), some (.int (B * k))], w) := by
  unfold cpI
  rw [seq_next (sAug_ev (p := .mul) (a := R) (b := (x.length : Nat)) (v := R * (x.length : Nat)) rfl (len5 rfl) (mul_lit R hx))]
  exact sAug_ev (a := B) (b := k) (v := B * k) rfl rfl (mul_lit B hk)
theorem cpR_ok {c : Cf} {s0 r0 G : Option D} {x : List Int} (hx : small (x.length : Nat) = true) : ∀ (ks : List Int), (∀ k ∈ ks, small k = true) → ∀ (R B : Int) (o4 : Option D),
    ∃ o4', forGo c (.nm 4) cpI (ks.map .int) [s0, r0, G, some (.int R), o4, some (.list (x.map .int)), some (.int B)] w = some (.next [s0, r0, G, some (.int (ks.foldl (fun R _ => R * (x.length : Nat)) R)), o4', some (.list (x.map .int)), some (.int (ks.foldl (· * ·) B))], w)
  | [], _, R, B, o4 => ⟨o4, rfl⟩
  | k :: ks, h, R, B, o4 => by
    obtain ⟨o, e⟩ := cpR_ok (c := c) (s0 := s0) (r0 := r0) (G := G) hx ks (fun y hy => h y (.tail _ hy)) (R * (x.length : Nat)) (B * k) (some (.int k))
    refine ⟨o, ?_⟩
    rw [List.map_cons, forGo_cons (r1 := [s0, r0, G, some (.int R), some (.int k), some (.list (x.map .int)), some (.int B)]) rfl (cpI_ok hx R B k (h k (.head _)))]
    exact e
theorem cp_end {c : Cf} {s0 r0 G : Option D} {x : List Int} (L : Nat) (ks : List Int) (R' B' : Int) (hx : x.length = L) (hL : inR (L : Int) = true) (hsm : small (L : Int) = true) (hks : rangeD 2 (L : Int) = ks.map .int) (hk : ∀ k ∈ ks, small k = true) (R : Int) (o4 o6 : Option D)
    (hR : ks.foldl (fun R _ => R * (L : Int)) R = R') (hB : ks.foldl (· * ·) 1 = B') (hB2 : 0 < B' ∧ B' < 1073741824) :
    ∃ o4' o6', cpB c [s0, r0, G, some (.int R), o4, some (.list (x.map .int)), o6] w = some (.next [s0, r0, G, some (.int (R' / B')), o4', some (.list (x.map .int)), o6'], w) := by
  subst hx
  obtain ⟨o, e⟩ := cpR_ok (w := w) (c := c) (s0 := s0) (r0 := r0) (G := G) hsm ks hk R 1 o4
  rw [hR, hB] at e
  refine ⟨o, some (.int B'), ?_⟩
  unfold cpB
  rw [seq_next (r1 := [s0, r0, G, some (.int R), o4, some (.list (x.map .int)), some (.int 1)]) rfl]
  have i2 : inR 2 = true := by decide
  rw [seq_next (r1 := [s0, r0, G, some (.int R'), o, some (.list (x.map .int)), some (.int B')]) (w1 := w) (by
    rw [for_of (e_iRng2 _ _ _ _ _ 2 (x.length : Nat) rfl (len5 rfl) i2 hL), hks]
    exact e)]
  exact sAug_ev (a := R') (b := B') (v := R' / B') rfl rfl (div_lit R' hB2)
theorem cpB_ok {c : Cf} {s0 r0 G : Option D} {x : List Int} (hx : 1 ≤ x.length ∧ x.length ≤ 6) (R : Int) (hR : 1 ≤ R) (o4 o6 : Option D) :
    ∃ R' o4' o6', 1 ≤ R' ∧ cpB c [s0, r0, G, some (.int R), o4, some (.list (x.map .int)), o6] w = some (.next [s0, r0, G, some (.int R'), o4', some (.list (x.map .int)), o6'], w) := by
  have hc : x.length = 1 ∨ x.length = 2 ∨ x.length = 3 ∨ x.length = 4 ∨ x.length = 5 ∨ x.length = 6 := by omega
  rcases hc with z | z | z | z | z | z
  · obtain ⟨p, q, e⟩ := cp_end (w := w) (c := c) (s0 := s0) (r0 := r0) (G := G) 1 [] R 1 z (by decide) (by decide) rfl (by decide) R o4 o6 rfl rfl (by decide)
    exact ⟨_, p, q, by omega, e⟩
  · obtain ⟨p, q, e⟩ := cp_end (w := w) (c := c) (s0 := s0) (r0 := r0) (G := G) 2 [] R 1 z (by decide) (by decide) rfl (by decide) R o4 o6 rfl rfl (by decide)
    exact ⟨_, p, q, by omega, e⟩
  · obtain ⟨p, q, e⟩ := cp_end (w := w) (c := c) (s0 := s0) (r0 := r0) (G := G) 3 [2] (R * 3) 2 z (by decide) (by decide) rfl (by decide) R o4 o6 rfl rfl (by decide)
    exact ⟨_, p, q, by omega, e⟩
  · obtain ⟨p, q, e⟩ := cp_end (w := w) (c := c) (s0 := s0) (r0 := r0) (G := G) 4 [2, 3] (R * 4 * 4) 6 z (by decide) (by decide) rfl (by decide) R o4 o6 rfl rfl (by decide)
    exact ⟨_, p, q, by omega, e⟩
  · obtain ⟨p, q, e⟩ := cp_end (w := w) (c := c) (s0 := s0) (r0 := r0) (G := G) 5 [2, 3, 4] (R * 5 * 5 * 5) 24 z (by decide) (by decide) rfl (by decide) R o4 o6 rfl rfl (by decide)
    exact ⟨_, p, q, by omega, e⟩
  · obtain ⟨p, q, e⟩ := cp_end (w := w) (c := c) (s0 := s0) (r0 := r0) (G := G) 6 [2, 3, 4, 5] (R * 6 * 6 * 6 * 6) 120 z (by decide) (by decide) rfl (by decide) R o4 o6 rfl rfl (by decide)
    exact ⟨_, p, q, by omega, e⟩
theorem cpL_ok {c : Cf} {s0 r0 G : Option D} : ∀ (g : List (List Int)), (∀ x ∈ g, 1 ≤ x.length ∧ x.length ≤ 6) → ∀ (R : Int) (hR : 1 ≤ R) (o4 o5 o6 : Option D),
    ∃ R' o4' o5' o6', 1 ≤ R' ∧ forGo c (.nm 5) cpB (g.map fun x => .list (x.map .int)) [s0, r0, G, some (.int R), o4, o5, o6] w = some (.next [s0, r0, G, some (.int R'), o4', o5', o6'], w)
  | [], _, R, hR, o4, o5, o6 => ⟨R, o4, o5, o6, hR, rfl⟩
  | x :: g, h, R, hR, o4, o5, o6 => by
    obtain ⟨R1, p4, p6, h1, e1⟩ := cpB_ok (w := w) (c := c) (s0 := s0) (r0 := r0) (G := G) (h x (.head _)) R hR o4 o6
    obtain ⟨R2, q4, q5, q6, h2, e2⟩ := cpL_ok (c := c) (s0 := s0) (r0 := r0) (G := G) g (fun y hy => h y (.tail _ hy)) R1 h1 p4 (some (.list (x.map .int))) p6
    refine ⟨R2, q4, q5, q6, h2, ?_⟩
    rw [List.map_cons, forGo_cons (r1 := [s0, r0, G, some (.int R), o4, some (.list (x.map .int)), o6]) rfl e1]
    exact e2
theorem comp_ok {s : Nat} (at_ : ∀ ms ∈ permsOf (rngI s), ∀ (c : Cf) (row : Option D) (w : Om), fR s c row w ms = oR s w ms) (hs : 2 ≤ s ∧ s ≤ 6) (h5 : T i_moved = some f_moved) (h6 : T i_result_of = some f_result_of) (h7 : T i_rest_groups = some f_rest_groups) (h8 : T i_completions_of = some f_completions_of) (r : List (Int × Int)) (ok : OkR s r) (hl : r.length + 1 ≤ s) :
    ∃ v : Int, run T (n + 4) i_completions_of [.int s, dR r] w = some (.val (.int v), w) ∧ 0 ≤ v ∧ (0 < v ↔ nc s (resL s r) = r.length + 1) := by
  have e0 := rgrp_ok (T := T) (n := n) (w := w) at_ hs h5 h6 h7 r ok
  have gl : ∀ x ∈ rgrp s (resL s r), 1 ≤ x.length ∧ x.length ≤ 6 := fun x hx => by
    have := rgrp_len (by omega) hx
    omega
  have ln : lenP (dLL (rgrp s (resL s r))) = some (.int (nc s (resL s r))) := by simp [lenP, dLL, nc]
  by_cases hc : nc s (resL s r) = r.length + 1
  · obtain ⟨L, hL⟩ : ∃ L : Nat, (L : Int) = (s : Int) - (r.length : Nat) := ⟨s - r.length, by omega⟩
    have hL2 : L = 1 ∨ L = 2 ∨ L = 3 ∨ L = 4 ∨ L = 5 ∨ L = 6 := by omega
    obtain ⟨F, hF, o4, e1⟩ : ∃ F : Int, 1 ≤ F ∧ ∃ o4, forGo (run T (n + 3)) (.nm 4) (sAug 3 .mul (dVar 4)) (rangeD 1 (L : Int)) [some (.int s), some (dR r), some (dLL (rgrp s (resL s r))), some (.int 1), none, none, none] w = some (.next [some (.int s), some (dR r), some (dLL (rgrp s (resL s r))), some (.int F), o4, none, none], w) := by
      rcases hL2 with rfl | rfl | rfl | rfl | rfl | rfl
      · exact ⟨1, by decide, none, rfl⟩
      · exact ⟨1, by decide, some (.int 1), rfl⟩
      · exact ⟨2, by decide, some (.int 2), rfl⟩
      · exact ⟨6, by decide, some (.int 3), rfl⟩
      · exact ⟨24, by decide, some (.int 4), rfl⟩
      · exact ⟨120, by decide, some (.int 5), rfl⟩
    obtain ⟨R', p4, p5, p6, hR', e2⟩ := cpL_ok (w := w) (c := run T (n + 3)) (s0 := some (.int s)) (r0 := some (dR r)) (G := some (dLL (rgrp s (resL s r)))) (rgrp s (resL s r)) gl F hF o4 none none
    refine ⟨R', ?_, by omega, ⟨fun _ => hc, fun _ => by omega⟩⟩
    rw [run_at h8 rfl (by decide)]
    have i1 : inR (L : Int) = true := by
      rcases hL2 with rfl | rfl | rfl | rfl | rfl | rfl <;> rfl
    have hcc : ((s : Int) - (nc s (resL s r) : Nat) = (s : Int) - 1 - (r.length : Nat)) := by omega
    have hit : items (dLL (rgrp s (resL s r))) = some ((rgrp s (resL s r)).map fun x => .list (x.map .int)) := rfl
    have r1 : iRng (dCons (dC (.int 1)) (dCons (dPrim .sub (dCons (dVar 0) (dCons (dPrim .len (dCons (dVar 1) dNil)) dNil))) dNil)) (run T (n + 3)) [some (.int s), some (dR r), some (dLL (rgrp s (resL s r))), some (.int 1), none, none, none] w = some (.vals (rangeD 1 (L : Int)), w) :=
      e_iRng2 _ _ _ _ _ 1 (L : Int) rfl (by simp [lenP_dR]; omega) rfl i1
    have i0 : dPrim .ne (dCons (dPrim .sub (dCons (dVar 0) (dCons (dPrim .len (dCons (dVar 2) dNil)) dNil))) (dCons (dPrim .sub (dCons (dPrim .sub (dCons (dVar 0) (dCons (dC (.int 1)) dNil))) (dCons (dPrim .len (dCons (dVar 1) dNil)) dNil))) dNil)) (run T (n + 3)) [some (.int s), some (dR r), some (dLL (rgrp s (resL s r))), none, none, none, none] w = some (.val (.bool false), w) := by
      simp [ln, lenP_dR, hcc]
    show fin (sSeq _ (sSeq _ (sSeq _ (sSeq _ (sSeq (sFor (iSeq (dVar 2)) (.nm 5) cpB) (sRet (dVar 3)))))) (run T (n + 3)) [some (.int s), some (dR r), none, none, none, none, none] w) = _
    rw [seq_next (r1 := [some (.int s), some (dR r), some (dLL (rgrp s (resL s r))), none, none, none, none]) (w1 := w) (by simp [e0])]
    rw [seq_next (r1 := [some (.int s), some (dR r), some (dLL (rgrp s (resL s r))), none, none, none, none]) (w1 := w) (by rw [e_sIf, i0]; rfl)]
    rw [seq_next (r1 := [some (.int s), some (dR r), some (dLL (rgrp s (resL s r))), some (.int 1), none, none, none]) (w1 := w) rfl]
    rw [seq_next (r1 := [some (.int s), some (dR r), some (dLL (rgrp s (resL s r))), some (.int F), o4, none, none]) (w1 := w) (by rw [for_of r1]; exact e1)]
    rw [seq_next (r1 := [some (.int s), some (dR r), some (dLL (rgrp s (resL s r))), some (.int R'), p4, p5, p6]) (w1 := w) (by rw [for_of (xs := (rgrp s (resL s r)).map fun x => .list (x.map .int)) rfl]; exact e2)]
    rfl
  · refine ⟨0, ?_, by omega, ⟨fun h => by omega, fun h => absurd h hc⟩⟩
    rw [run_at h8 rfl (by decide)]
    have hcc : ¬ ((s : Int) - (nc s (resL s r) : Nat) = (s : Int) - 1 - (r.length : Nat)) := by omega
    simp [f_completions_of, b_completions_of, fin, e0, ln, lenP_dR, hcc]
end
end Rx

set_option Elab.async false
set_option linter.all false
set_option maxRecDepth 100000
set_option autoImplicit false
namespace Rx
open PySem
/-! ### what the first exchanges of round lists do: where each place is moved, how many they are, which may follow -/
abbrev Row := List Int × Nat × List ((Int × Int) × Nat)
def tab2 : List Row := [([0, 1], 0, [((0, 1), 1)]),
  ([1, 0], 1, [])]
def tab3 : List Row := [([0, 1, 2], 0, [((0, 1), 1), ((0, 2), 2), ((1, 2), 3)]),
  ([1, 0, 2], 1, [((0, 2), 4)]),
  ([2, 1, 0], 1, [((1, 2), 4)]),
  ([0, 2, 1], 1, [((0, 1), 4)]),
  ([1, 2, 0], 2, [])]
def tab4 : List Row := [([0, 1, 2, 3], 0, [((0, 1), 1), ((0, 2), 2), ((0, 3), 3), ((1, 2), 4), ((1, 3), 5), ((2, 3), 6)]),
  ([1, 0, 2, 3], 1, [((0, 2), 7), ((0, 3), 8), ((2, 3), 9)]),
  ([2, 1, 0, 3], 1, [((0, 3), 10), ((1, 2), 7)]),
  ([3, 1, 2, 0], 1, [((1, 2), 11), ((1, 3), 8), ((2, 3), 10)]),
  ([0, 2, 1, 3], 1, [((0, 1), 7), ((0, 3), 11), ((1, 3), 12)]),
  ([0, 3, 2, 1], 1, [((0, 1), 8), ((2, 3), 12)]),
  ([0, 1, 3, 2], 1, [((0, 1), 9), ((0, 2), 10), ((1, 2), 12)]),
  ([1, 2, 0, 3], 2, [((0, 3), 13)]),
  ([1, 3, 2, 0], 2, [((2, 3), 13)]),
  ([1, 0, 3, 2], 2, [((0, 2), 13)]),
  ([2, 1, 3, 0], 2, [((1, 2), 13)]),
  ([3, 2, 1, 0], 2, [((1, 3), 13)]),
  ([0, 2, 3, 1], 2, [((0, 1), 13)]),
  ([1, 2, 3, 0], 3, [])]
def tab5 : List Row := [([0, 1, 2, 3, 4], 0, [((0, 1), 1), ((0, 2), 2), ((0, 3), 3), ((0, 4), 4), ((1, 2), 5), ((1, 3), 6), ((1, 4), 7), ((2, 3), 8), ((2, 4), 9), ((3, 4), 10)]),
  ([1, 0, 2, 3, 4], 1, [((0, 2), 11), ((0, 3), 12), ((0, 4), 13), ((2, 3), 14), ((2, 4), 15), ((3, 4), 16)]),
  ([2, 1, 0, 3, 4], 1, [((0, 3), 17), ((0, 4), 18), ((1, 2), 11), ((3, 4), 19)]),
  ([3, 1, 2, 0, 4], 1, [((0, 4), 20), ((1, 2), 21), ((1, 3), 12), ((2, 3), 17)]),
  ([4, 1, 2, 3, 0], 1, [((1, 2), 22), ((1, 3), 23), ((1, 4), 13), ((2, 3), 24), ((2, 4), 18), ((3, 4), 20)]),
  ([0, 2, 1, 3, 4], 1, [((0, 1), 11), ((0, 3), 21), ((0, 4), 22), ((1, 3), 25), ((1, 4), 26), ((3, 4), 27)]),
  ([0, 3, 2, 1, 4], 1, [((0, 1), 12), ((0, 4), 23), ((1, 4), 28), ((2, 3), 25)]),
  ([0, 4, 2, 3, 1], 1, [((0, 1), 13), ((2, 3), 29), ((2, 4), 26), ((3, 4), 28)]),
  ([0, 1, 3, 2, 4], 1, [((0, 1), 14), ((0, 2), 17), ((0, 4), 24), ((1, 2), 25), ((1, 4), 29), ((2, 4), 30)]),
  ([0, 1, 4, 3, 2], 1, [((0, 1), 15), ((0, 2), 18), ((1, 2), 26), ((3, 4), 30)]),
  ([0, 1, 2, 4, 3], 1, [((0, 1), 16), ((0, 2), 19), ((0, 3), 20), ((1, 2), 27), ((1, 3), 28), ((2, 3), 30)]),
  ([1, 2, 0, 3, 4], 2, [((0, 3), 31), ((0, 4), 32), ((3, 4), 33)]),
  ([1, 3, 2, 0, 4], 2, [((0, 4), 34), ((2, 3), 31)]),
  ([1, 4, 2, 3, 0], 2, [((2, 3), 35), ((2, 4), 32), ((3, 4), 34)]),
  ([1, 0, 3, 2, 4], 2, [((0, 2), 31), ((0, 4), 35), ((2, 4), 36)]),
  ([1, 0, 4, 3, 2], 2, [((0, 2), 32), ((3, 4), 36)]),
  ([1, 0, 2, 4, 3], 2, [((0, 2), 33), ((0, 3), 34), ((2, 3), 36)]),
  ([2, 1, 3, 0, 4], 2, [((0, 4), 37), ((1, 2), 31)]),
  ([2, 1, 4, 3, 0], 2, [((1, 2), 32), ((3, 4), 37)]),
  ([2, 1, 0, 4, 3], 2, [((0, 3), 37), ((1, 2), 33)]),
  ([3, 1, 2, 4, 0], 2, [((1, 2), 38), ((1, 3), 34), ((2, 3), 37)]),
  ([3, 2, 1, 0, 4], 2, [((0, 4), 38), ((1, 3), 31)]),
  ([4, 2, 1, 3, 0], 2, [((1, 3), 39), ((1, 4), 32), ((3, 4), 38)]),
  ([4, 3, 2, 1, 0], 2, [((1, 4), 34), ((2, 3), 39)]),
  ([4, 1, 3, 2, 0], 2, [((1, 2), 39), ((1, 4), 35), ((2, 4), 37)]),
  ([0, 2, 3, 1, 4], 2, [((0, 1), 31), ((0, 4), 39), ((1, 4), 40)]),
  ([0, 2, 4, 3, 1], 2, [((0, 1), 32), ((3, 4), 40)]),
  ([0, 2, 1, 4, 3], 2, [((0, 1), 33), ((0, 3), 38), ((1, 3), 40)]),
  ([0, 3, 2, 4, 1], 2, [((0, 1), 34), ((2, 3), 40)]),
  ([0, 4, 3, 2, 1], 2, [((0, 1), 35), ((2, 4), 40)]),
  ([0, 1, 3, 4, 2], 2, [((0, 1), 36), ((0, 2), 37), ((1, 2), 40)]),
  ([1, 2, 3, 0, 4], 3, [((0, 4), 41)]),
  ([1, 2, 4, 3, 0], 3, [((3, 4), 41)]),
  ([1, 2, 0, 4, 3], 3, [((0, 3), 41)]),
  ([1, 3, 2, 4, 0], 3, [((2, 3), 41)]),
  ([1, 4, 3, 2, 0], 3, [((2, 4), 41)]),
  ([1, 0, 3, 4, 2], 3, [((0, 2), 41)]),
  ([2, 1, 3, 4, 0], 3, [((1, 2), 41)]),
  ([3, 2, 1, 4, 0], 3, [((1, 3), 41)]),
  ([4, 2, 3, 1, 0], 3, [((1, 4), 41)]),
  ([0, 2, 3, 4, 1], 3, [((0, 1), 41)]),
  ([1, 2, 3, 4, 0], 4, [])]
def tab6 : List Row := [([0, 1, 2, 3, 4, 5], 0, [((0, 1), 1), ((0, 2), 2), ((0, 3), 3), ((0, 4), 4), ((0, 5), 5), ((1, 2), 6), ((1, 3), 7), ((1, 4), 8), ((1, 5), 9), ((2, 3), 10), ((2, 4), 11), ((2, 5), 12), ((3, 4), 13), ((3, 5), 14), ((4, 5), 15)]),
  ([1, 0, 2, 3, 4, 5], 1, [((0, 2), 16), ((0, 3), 17), ((0, 4), 18), ((0, 5), 19), ((2, 3), 20), ((2, 4), 21), ((2, 5), 22), ((3, 4), 23), ((3, 5), 24), ((4, 5), 25)]),
  ([2, 1, 0, 3, 4, 5], 1, [((0, 3), 26), ((0, 4), 27), ((0, 5), 28), ((1, 2), 16), ((3, 4), 29), ((3, 5), 30), ((4, 5), 31)]),
  ([3, 1, 2, 0, 4, 5], 1, [((0, 4), 32), ((0, 5), 33), ((1, 2), 34), ((1, 3), 17), ((2, 3), 26), ((4, 5), 35)]),
  ([4, 1, 2, 3, 0, 5], 1, [((0, 5), 36), ((1, 2), 37), ((1, 3), 38), ((1, 4), 18), ((2, 3), 39), ((2, 4), 27), ((3, 4), 32)]),
  ([5, 1, 2, 3, 4, 0], 1, [((1, 2), 40), ((1, 3), 41), ((1, 4), 42), ((1, 5), 19), ((2, 3), 43), ((2, 4), 44), ((2, 5), 28), ((3, 4), 45), ((3, 5), 33), ((4, 5), 36)]),
  ([0, 2, 1, 3, 4, 5], 1, [((0, 1), 16), ((0, 3), 34), ((0, 4), 37), ((0, 5), 40), ((1, 3), 46), ((1, 4), 47), ((1, 5), 48), ((3, 4), 49), ((3, 5), 50), ((4, 5), 51)]),
  ([0, 3, 2, 1, 4, 5], 1, [((0, 1), 17), ((0, 4), 38), ((0, 5), 41), ((1, 4), 52), ((1, 5), 53), ((2, 3), 46), ((4, 5), 54)]),
  ([0, 4, 2, 3, 1, 5], 1, [((0, 1), 18), ((0, 5), 42), ((1, 5), 55), ((2, 3), 56), ((2, 4), 47), ((3, 4), 52)]),
  ([0, 5, 2, 3, 4, 1], 1, [((0, 1), 19), ((2, 3), 57), ((2, 4), 58), ((2, 5), 48), ((3, 4), 59), ((3, 5), 53), ((4, 5), 55)]),
  ([0, 1, 3, 2, 4, 5], 1, [((0, 1), 20), ((0, 2), 26), ((0, 4), 39), ((0, 5), 43), ((1, 2), 46), ((1, 4), 56), ((1, 5), 57), ((2, 4), 60), ((2, 5), 61), ((4, 5), 62)]),
  ([0, 1, 4, 3, 2, 5], 1, [((0, 1), 21), ((0, 2), 27), ((0, 5), 44), ((1, 2), 47), ((1, 5), 58), ((2, 5), 63), ((3, 4), 60)]),
  ([0, 1, 5, 3, 4, 2], 1, [((0, 1), 22), ((0, 2), 28), ((1, 2), 48), ((3, 4), 64), ((3, 5), 61), ((4, 5), 63)]),
  ([0, 1, 2, 4, 3, 5], 1, [((0, 1), 23), ((0, 2), 29), ((0, 3), 32), ((0, 5), 45), ((1, 2), 49), ((1, 3), 52), ((1, 5), 59), ((2, 3), 60), ((2, 5), 64), ((3, 5), 65)]),
  ([0, 1, 2, 5, 4, 3], 1, [((0, 1), 24), ((0, 2), 30), ((0, 3), 33), ((1, 2), 50), ((1, 3), 53), ((2, 3), 61), ((4, 5), 65)]),
  ([0, 1, 2, 3, 5, 4], 1, [((0, 1), 25), ((0, 2), 31), ((0, 3), 35), ((0, 4), 36), ((1, 2), 51), ((1, 3), 54), ((1, 4), 55), ((2, 3), 62), ((2, 4), 63), ((3, 4), 65)]),
  ([1, 2, 0, 3, 4, 5], 2, [((0, 3), 66), ((0, 4), 67), ((0, 5), 68), ((3, 4), 69), ((3, 5), 70), ((4, 5), 71)]),
  ([1, 3, 2, 0, 4, 5], 2, [((0, 4), 72), ((0, 5), 73), ((2, 3), 66), ((4, 5), 74)]),
  ([1, 4, 2, 3, 0, 5], 2, [((0, 5), 75), ((2, 3), 76), ((2, 4), 67), ((3, 4), 72)]),
  ([1, 5, 2, 3, 4, 0], 2, [((2, 3), 77), ((2, 4), 78), ((2, 5), 68), ((3, 4), 79), ((3, 5), 73), ((4, 5), 75)]),
  ([1, 0, 3, 2, 4, 5], 2, [((0, 2), 66), ((0, 4), 76), ((0, 5), 77), ((2, 4), 80), ((2, 5), 81), ((4, 5), 82)]),
  ([1, 0, 4, 3, 2, 5], 2, [((0, 2), 67), ((0, 5), 78), ((2, 5), 83), ((3, 4), 80)]),
  ([1, 0, 5, 3, 4, 2], 2, [((0, 2), 68), ((3, 4), 84), ((3, 5), 81), ((4, 5), 83)]),
  ([1, 0, 2, 4, 3, 5], 2, [((0, 2), 69), ((0, 3), 72), ((0, 5), 79), ((2, 3), 80), ((2, 5), 84), ((3, 5), 85)]),
  ([1, 0, 2, 5, 4, 3], 2, [((0, 2), 70), ((0, 3), 73), ((2, 3), 81), ((4, 5), 85)]),
  ([1, 0, 2, 3, 5, 4], 2, [((0, 2), 71), ((0, 3), 74), ((0, 4), 75), ((2, 3), 82), ((2, 4), 83), ((3, 4), 85)]),
  ([2, 1, 3, 0, 4, 5], 2, [((0, 4), 86), ((0, 5), 87), ((1, 2), 66), ((4, 5), 88)]),
  ([2, 1, 4, 3, 0, 5], 2, [((0, 5), 89), ((1, 2), 67), ((3, 4), 86)]),
  ([2, 1, 5, 3, 4, 0], 2, [((1, 2), 68), ((3, 4), 90), ((3, 5), 87), ((4, 5), 89)]),
  ([2, 1, 0, 4, 3, 5], 2, [((0, 3), 86), ((0, 5), 90), ((1, 2), 69), ((3, 5), 91)]),
  ([2, 1, 0, 5, 4, 3], 2, [((0, 3), 87), ((1, 2), 70), ((4, 5), 91)]),
  ([2, 1, 0, 3, 5, 4], 2, [((0, 3), 88), ((0, 4), 89), ((1, 2), 71), ((3, 4), 91)]),
  ([3, 1, 2, 4, 0, 5], 2, [((0, 5), 92), ((1, 2), 93), ((1, 3), 72), ((2, 3), 86)]),
  ([3, 1, 2, 5, 4, 0], 2, [((1, 2), 94), ((1, 3), 73), ((2, 3), 87), ((4, 5), 92)]),
  ([3, 2, 1, 0, 4, 5], 2, [((0, 4), 93), ((0, 5), 94), ((1, 3), 66), ((4, 5), 95)]),
  ([3, 1, 2, 0, 5, 4], 2, [((0, 4), 92), ((1, 2), 95), ((1, 3), 74), ((2, 3), 88)]),
  ([4, 1, 2, 3, 5, 0], 2, [((1, 2), 96), ((1, 3), 97), ((1, 4), 75), ((2, 3), 98), ((2, 4), 89), ((3, 4), 92)]),
  ([4, 2, 1, 3, 0, 5], 2, [((0, 5), 96), ((1, 3), 99), ((1, 4), 67), ((3, 4), 93)]),
  ([4, 3, 2, 1, 0, 5], 2, [((0, 5), 97), ((1, 4), 72), ((2, 3), 99)]),
  ([4, 1, 3, 2, 0, 5], 2, [((0, 5), 98), ((1, 2), 99), ((1, 4), 76), ((2, 4), 86)]),
  ([5, 2, 1, 3, 4, 0], 2, [((1, 3), 100), ((1, 4), 101), ((1, 5), 68), ((3, 4), 102), ((3, 5), 94), ((4, 5), 96)]),
  ([5, 3, 2, 1, 4, 0], 2, [((1, 4), 103), ((1, 5), 73), ((2, 3), 100), ((4, 5), 97)]),
  ([5, 4, 2, 3, 1, 0], 2, [((1, 5), 75), ((2, 3), 104), ((2, 4), 101), ((3, 4), 103)]),
  ([5, 1, 3, 2, 4, 0], 2, [((1, 2), 100), ((1, 4), 104), ((1, 5), 77), ((2, 4), 105), ((2, 5), 87), ((4, 5), 98)]),
  ([5, 1, 4, 3, 2, 0], 2, [((1, 2), 101), ((1, 5), 78), ((2, 5), 89), ((3, 4), 105)]),
  ([5, 1, 2, 4, 3, 0], 2, [((1, 2), 102), ((1, 3), 103), ((1, 5), 79), ((2, 3), 105), ((2, 5), 90), ((3, 5), 92)]),
  ([0, 2, 3, 1, 4, 5], 2, [((0, 1), 66), ((0, 4), 99), ((0, 5), 100), ((1, 4), 106), ((1, 5), 107), ((4, 5), 108)]),
  ([0, 2, 4, 3, 1, 5], 2, [((0, 1), 67), ((0, 5), 101), ((1, 5), 109), ((3, 4), 106)]),
  ([0, 2, 5, 3, 4, 1], 2, [((0, 1), 68), ((3, 4), 110), ((3, 5), 107), ((4, 5), 109)]),
  ([0, 2, 1, 4, 3, 5], 2, [((0, 1), 69), ((0, 3), 93), ((0, 5), 102), ((1, 3), 106), ((1, 5), 110), ((3, 5), 111)]),
  ([0, 2, 1, 5, 4, 3], 2, [((0, 1), 70), ((0, 3), 94), ((1, 3), 107), ((4, 5), 111)]),
  ([0, 2, 1, 3, 5, 4], 2, [((0, 1), 71), ((0, 3), 95), ((0, 4), 96), ((1, 3), 108), ((1, 4), 109), ((3, 4), 111)]),
  ([0, 3, 2, 4, 1, 5], 2, [((0, 1), 72), ((0, 5), 103), ((1, 5), 112), ((2, 3), 106)]),
  ([0, 3, 2, 5, 4, 1], 2, [((0, 1), 73), ((2, 3), 107), ((4, 5), 112)]),
  ([0, 3, 2, 1, 5, 4], 2, [((0, 1), 74), ((0, 4), 97), ((1, 4), 112), ((2, 3), 108)]),
  ([0, 4, 2, 3, 5, 1], 2, [((0, 1), 75), ((2, 3), 113), ((2, 4), 109), ((3, 4), 112)]),
  ([0, 4, 3, 2, 1, 5], 2, [((0, 1), 76), ((0, 5), 104), ((1, 5), 113), ((2, 4), 106)]),
  ([0, 5, 3, 2, 4, 1], 2, [((0, 1), 77), ((2, 4), 114), ((2, 5), 107), ((4, 5), 113)]),
  ([0, 5, 4, 3, 2, 1], 2, [((0, 1), 78), ((2, 5), 109), ((3, 4), 114)]),
  ([0, 5, 2, 4, 3, 1], 2, [((0, 1), 79), ((2, 3), 114), ((2, 5), 110), ((3, 5), 112)]),
  ([0, 1, 3, 4, 2, 5], 2, [((0, 1), 80), ((0, 2), 86), ((0, 5), 105), ((1, 2), 106), ((1, 5), 114), ((2, 5), 115)]),
  ([0, 1, 3, 5, 4, 2], 2, [((0, 1), 81), ((0, 2), 87), ((1, 2), 107), ((4, 5), 115)]),
  ([0, 1, 3, 2, 5, 4], 2, [((0, 1), 82), ((0, 2), 88), ((0, 4), 98), ((1, 2), 108), ((1, 4), 113), ((2, 4), 115)]),
  ([0, 1, 4, 3, 5, 2], 2, [((0, 1), 83), ((0, 2), 89), ((1, 2), 109), ((3, 4), 115)]),
  ([0, 1, 5, 4, 3, 2], 2, [((0, 1), 84), ((0, 2), 90), ((1, 2), 110), ((3, 5), 115)]),
  ([0, 1, 2, 4, 5, 3], 2, [((0, 1), 85), ((0, 2), 91), ((0, 3), 92), ((1, 2), 111), ((1, 3), 112), ((2, 3), 115)]),
  ([1, 2, 3, 0, 4, 5], 3, [((0, 4), 116), ((0, 5), 117), ((4, 5), 118)]),
  ([1, 2, 4, 3, 0, 5], 3, [((0, 5), 119), ((3, 4), 116)]),
  ([1, 2, 5, 3, 4, 0], 3, [((3, 4), 120), ((3, 5), 117), ((4, 5), 119)]),
  ([1, 2, 0, 4, 3, 5], 3, [((0, 3), 116), ((0, 5), 120), ((3, 5), 121)]),
  ([1, 2, 0, 5, 4, 3], 3, [((0, 3), 117), ((4, 5), 121)]),
  ([1, 2, 0, 3, 5, 4], 3, [((0, 3), 118), ((0, 4), 119), ((3, 4), 121)]),
  ([1, 3, 2, 4, 0, 5], 3, [((0, 5), 122), ((2, 3), 116)]),
  ([1, 3, 2, 5, 4, 0], 3, [((2, 3), 117), ((4, 5), 122)]),
  ([1, 3, 2, 0, 5, 4], 3, [((0, 4), 122), ((2, 3), 118)]),
  ([1, 4, 2, 3, 5, 0], 3, [((2, 3), 123), ((2, 4), 119), ((3, 4), 122)]),
  ([1, 4, 3, 2, 0, 5], 3, [((0, 5), 123), ((2, 4), 116)]),
  ([1, 5, 3, 2, 4, 0], 3, [((2, 4), 124), ((2, 5), 117), ((4, 5), 123)]),
  ([1, 5, 4, 3, 2, 0], 3, [((2, 5), 119), ((3, 4), 124)]),
  ([1, 5, 2, 4, 3, 0], 3, [((2, 3), 124), ((2, 5), 120), ((3, 5), 122)]),
  ([1, 0, 3, 4, 2, 5], 3, [((0, 2), 116), ((0, 5), 124), ((2, 5), 125)]),
  ([1, 0, 3, 5, 4, 2], 3, [((0, 2), 117), ((4, 5), 125)]),
  ([1, 0, 3, 2, 5, 4], 3, [((0, 2), 118), ((0, 4), 123), ((2, 4), 125)]),
  ([1, 0, 4, 3, 5, 2], 3, [((0, 2), 119), ((3, 4), 125)]),
  ([1, 0, 5, 4, 3, 2], 3, [((0, 2), 120), ((3, 5), 125)]),
  ([1, 0, 2, 4, 5, 3], 3, [((0, 2), 121), ((0, 3), 122), ((2, 3), 125)]),
  ([2, 1, 3, 4, 0, 5], 3, [((0, 5), 126), ((1, 2), 116)]),
  ([2, 1, 3, 5, 4, 0], 3, [((1, 2), 117), ((4, 5), 126)]),
  ([2, 1, 3, 0, 5, 4], 3, [((0, 4), 126), ((1, 2), 118)]),
  ([2, 1, 4, 3, 5, 0], 3, [((1, 2), 119), ((3, 4), 126)]),
  ([2, 1, 5, 4, 3, 0], 3, [((1, 2), 120), ((3, 5), 126)]),
  ([2, 1, 0, 4, 5, 3], 3, [((0, 3), 126), ((1, 2), 121)]),
  ([3, 1, 2, 4, 5, 0], 3, [((1, 2), 127), ((1, 3), 122), ((2, 3), 126)]),
  ([3, 2, 1, 4, 0, 5], 3, [((0, 5), 127), ((1, 3), 116)]),
  ([3, 2, 1, 5, 4, 0], 3, [((1, 3), 117), ((4, 5), 127)]),
  ([3, 2, 1, 0, 5, 4], 3, [((0, 4), 127), ((1, 3), 118)]),
  ([4, 2, 1, 3, 5, 0], 3, [((1, 3), 128), ((1, 4), 119), ((3, 4), 127)]),
  ([4, 3, 2, 1, 5, 0], 3, [((1, 4), 122), ((2, 3), 128)]),
  ([4, 1, 3, 2, 5, 0], 3, [((1, 2), 128), ((1, 4), 123), ((2, 4), 126)]),
  ([4, 2, 3, 1, 0, 5], 3, [((0, 5), 128), ((1, 4), 116)]),
  ([5, 2, 3, 1, 4, 0], 3, [((1, 4), 129), ((1, 5), 117), ((4, 5), 128)]),
  ([5, 2, 4, 3, 1, 0], 3, [((1, 5), 119), ((3, 4), 129)]),
  ([5, 2, 1, 4, 3, 0], 3, [((1, 3), 129), ((1, 5), 120), ((3, 5), 127)]),
  ([5, 3, 2, 4, 1, 0], 3, [((1, 5), 122), ((2, 3), 129)]),
  ([5, 4, 3, 2, 1, 0], 3, [((1, 5), 123), ((2, 4), 129)]),
  ([5, 1, 3, 4, 2, 0], 3, [((1, 2), 129), ((1, 5), 124), ((2, 5), 126)]),
  ([0, 2, 3, 4, 1, 5], 3, [((0, 1), 116), ((0, 5), 129), ((1, 5), 130)]),
  ([0, 2, 3, 5, 4, 1], 3, [((0, 1), 117), ((4, 5), 130)]),
  ([0, 2, 3, 1, 5, 4], 3, [((0, 1), 118), ((0, 4), 128), ((1, 4), 130)]),
  ([0, 2, 4, 3, 5, 1], 3, [((0, 1), 119), ((3, 4), 130)]),
  ([0, 2, 5, 4, 3, 1], 3, [((0, 1), 120), ((3, 5), 130)]),
  ([0, 2, 1, 4, 5, 3], 3, [((0, 1), 121), ((0, 3), 127), ((1, 3), 130)]),
  ([0, 3, 2, 4, 5, 1], 3, [((0, 1), 122), ((2, 3), 130)]),
  ([0, 4, 3, 2, 5, 1], 3, [((0, 1), 123), ((2, 4), 130)]),
  ([0, 5, 3, 4, 2, 1], 3, [((0, 1), 124), ((2, 5), 130)]),
  ([0, 1, 3, 4, 5, 2], 3, [((0, 1), 125), ((0, 2), 126), ((1, 2), 130)]),
  ([1, 2, 3, 4, 0, 5], 4, [((0, 5), 131)]),
  ([1, 2, 3, 5, 4, 0], 4, [((4, 5), 131)]),
  ([1, 2, 3, 0, 5, 4], 4, [((0, 4), 131)]),
  ([1, 2, 4, 3, 5, 0], 4, [((3, 4), 131)]),
  ([1, 2, 5, 4, 3, 0], 4, [((3, 5), 131)]),
  ([1, 2, 0, 4, 5, 3], 4, [((0, 3), 131)]),
  ([1, 3, 2, 4, 5, 0], 4, [((2, 3), 131)]),
  ([1, 4, 3, 2, 5, 0], 4, [((2, 4), 131)]),
  ([1, 5, 3, 4, 2, 0], 4, [((2, 5), 131)]),
  ([1, 0, 3, 4, 5, 2], 4, [((0, 2), 131)]),
  ([2, 1, 3, 4, 5, 0], 4, [((1, 2), 131)]),
  ([3, 2, 1, 4, 5, 0], 4, [((1, 3), 131)]),
  ([4, 2, 3, 1, 5, 0], 4, [((1, 4), 131)]),
  ([5, 2, 3, 4, 1, 0], 4, [((1, 5), 131)]),
  ([0, 2, 3, 4, 5, 1], 4, [((0, 1), 131)]),
  ([1, 2, 3, 4, 5, 0], 5, [])]
def tab : Nat → List Row
  | 2 => tab2
  | 3 => tab3
  | 4 => tab4
  | 5 => tab5
  | 6 => tab6
  | _ => []
def rowOk (s : Nat) (t : Row) : Bool := nc s t.1 == t.2.1 + 1 && ((pairsL s).filter fun e => nc s (t.1.map (mv e)) == t.2.1 + 2) == t.2.2.map (·.1) && t.2.2.all fun q => match (tab s)[q.2]? with
  | some u => u.1 == t.1.map (mv q.1) && u.2.1 == t.2.1 + 1
  | none => false
theorem tabOk2 : tab2.all (rowOk 2) = true := by decide +kernel
theorem tabOk3 : tab3.all (rowOk 3) = true := by decide +kernel
theorem tabOk4 : tab4.all (rowOk 4) = true := by decide +kernel
theorem tabOk5 : tab5.all (rowOk 5) = true := by decide +kernel
theorem tabOk6_0 : ((tab6.drop (12 * 0)).take 12).all (rowOk 6) = true := by decide +kernel
theorem tabOk6_1 : ((tab6.drop (12 * 1)).take 12).all (rowOk 6) = true := by decide +kernel
theorem tabOk6_2 : ((tab6.drop (12 * 2)).take 12).all (rowOk 6) = true := by decide +kernel
theorem tabOk6_3 : ((tab6.drop (12 * 3)).take 12).all (rowOk 6) = true := by decide +kernel
theorem tabOk6_4 : ((tab6.drop (12 * 4)).take 12).all (rowOk 6) = true := by decide +kernel
theorem tabOk6_5 : ((tab6.drop (12 * 5)).take 12).all (rowOk 6) = true := by decide +kernel
theorem tabOk6_6 : ((tab6.drop (12 * 6)).take 12).all (rowOk 6) = true := by decide +kernel
theorem tabOk6_7 : ((tab6.drop (12 * 7)).take 12).all (rowOk 6) = true := by decide +kernel
theorem tabOk6_8 : ((tab6.drop (12 * 8)).take 12).all (rowOk 6) = true := by decide +kernel
theorem tabOk6_9 : ((tab6.drop (12 * 9)).take 12).all (rowOk 6) = true := by decide +kernel
theorem tabOk6_10 : ((tab6.drop (12 * 10)).take 12).all (rowOk 6) = true := by decide +kernel
theorem tabOk6 : ∀ i, i < 11 → ((tab6.drop (12 * i)).take 12).all (rowOk 6) = true
  | 0, _ => tabOk6_0
  | 1, _ => tabOk6_1
  | 2, _ => tabOk6_2
  | 3, _ => tabOk6_3
  | 4, _ => tabOk6_4
  | 5, _ => tabOk6_5
  | 6, _ => tabOk6_6
  | 7, _ => tabOk6_7
  | 8, _ => tabOk6_8
  | 9, _ => tabOk6_9
  | 10, _ => tabOk6_10
  | n + 11, h => by omega
theorem tabOk : ∀ s : Nat, 2 ≤ s ∧ s ≤ 6 → ∀ t ∈ tab s, rowOk s t = true
  | 2, _ => fun t ht => List.all_eq_true.mp tabOk2 t ht
  | 3, _ => fun t ht => List.all_eq_true.mp tabOk3 t ht
  | 4, _ => fun t ht => List.all_eq_true.mp tabOk4 t ht
  | 5, _ => fun t ht => List.all_eq_true.mp tabOk5 t ht
  | 6, _ => fun t ht => by
    obtain ⟨i, hi, hc⟩ := in_chunk (k := 12) (m := 11) (by decide) (show tab6.length ≤ 12 * 11 by decide +kernel) ht
    exact List.all_eq_true.mp (tabOk6 i hi) t hc
  | 0, h => by omega
  | 1, h => by omega
  | n + 7, h => by omega
/-- the exchanges r lead to the row i of the table -/
structure At (s : Nat) (r : List (Int × Int)) (i : Nat) (t : Row) : Prop where
  at_ : (tab s)[i]? = some t
  ms : resL s r = t.1
  lv : r.length = t.2.1
  ok : OkR s r
theorem at_nil : ∀ s : Nat, 2 ≤ s ∧ s ≤ 6 → ∃ t, At s [] 0 t
  | 2, _ => ⟨_, rfl, by decide +kernel, rfl, fun p hp => by cases hp⟩
  | 3, _ => ⟨_, rfl, by decide +kernel, rfl, fun p hp => by cases hp⟩
  | 4, _ => ⟨_, rfl, by decide +kernel, rfl, fun p hp => by cases hp⟩
  | 5, _ => ⟨_, rfl, by decide +kernel, rfl, fun p hp => by cases hp⟩
  | 6, _ => ⟨_, rfl, by decide +kernel, rfl, fun p hp => by cases hp⟩
  | 0, h => by omega
  | 1, h => by omega
  | n + 7, h => by omega
theorem OkR.snoc {s : Int} {r : List (Int × Int)} {e : Int × Int} (h : OkR s r) (he : Ok s e) : OkR s (r ++ [e]) := fun p hp => by
  rcases List.mem_append.mp hp with z | z
  · exact h p z
  · rw [List.mem_singleton.mp z]; exact he
section
variable {s : Nat} {r : List (Int × Int)} {i : Nat} {t : Row}
theorem At.row (hs : 2 ≤ s ∧ s ≤ 6) (h : At s r i t) : nc s (resL s r) = r.length + 1 ∧ (∀ e, e ∈ t.2.2.map (·.1) ↔ e ∈ pairsL s ∧ nc s (resL s (r ++ [e])) = r.length + 2) ∧ ∀ q ∈ t.2.2, ∃ u, (tab s)[q.2]? = some u ∧ u.1 = t.1.map (mv q.1) ∧ u.2.1 = t.2.1 + 1 := by
  have k := tabOk s hs t (List.mem_of_getElem? h.at_)
  unfold rowOk at k
  simp only [Bool.and_eq_true, beq_iff_eq] at k
  obtain ⟨⟨k1, k2⟩, k3⟩ := k
  refine ⟨by rw [h.ms, k1, h.lv], fun e => ?_, fun q hq => ?_⟩
  · rw [← k2, List.mem_filter, resL_snoc, h.ms, h.lv, beq_iff_eq]
  · have z := List.all_eq_true.mp k3 q hq
    split at z
    · rename_i u hu
      simp only [Bool.and_eq_true, beq_iff_eq] at z
      exact ⟨u, hu, z.1, z.2⟩
    · cases z
/-- the next row -/
theorem At.next (hs : 2 ≤ s ∧ s ≤ 6) (h : At s r i t) {e : Int × Int} {j : Nat} (hq : (e, j) ∈ t.2.2) : Ok s e ∧ ∃ u, At s (r ++ [e]) j u := by
  obtain ⟨_, k2, k3⟩ := h.row hs
  obtain ⟨m1, _⟩ := (k2 e).mp (List.mem_map.mpr ⟨_, hq, rfl⟩)
  have oe := pairsL_ok m1
  obtain ⟨u, u1, u2, u3⟩ := k3 _ hq
  exact ⟨oe, u, u1, by rw [resL_snoc, h.ms, u2], by rw [List.length_append, h.lv, u3]; rfl, h.ok.snoc oe⟩
theorem At.ex (hs : 2 ≤ s ∧ s ≤ 6) (h : At s r i t) {e : Int × Int} (oe : Ok s e) : nc s (resL s (r ++ [e])) = (r ++ [e]).length + 1 ↔ ∃ j, (e, j) ∈ t.2.2 := by
  obtain ⟨_, k2, _⟩ := h.row hs
  rw [List.length_append]
  constructor
  · intro z
    obtain ⟨q, hq, rfl⟩ := List.mem_map.mp ((k2 e).mpr ⟨pairsL_in hs oe, z⟩)
    exact ⟨q.2, hq⟩
  · rintro ⟨j, hj⟩
    exact ((k2 e).mp (List.mem_map.mpr ⟨_, hj, rfl⟩)).2
end
/-- each first part of a round list is a row of the table -/
theorem round_at {s : Nat} (hs : 2 ≤ s ∧ s ≤ 6) {r : List (Int × Int)} (ok : OkR s r) (hl : r.length + 1 = s) (hr : resL s r = cyc s) : ∀ k, k ≤ r.length → ∃ i t, At s (r.take k) i t
  | 0, _ => by
    obtain ⟨t, h⟩ := at_nil s hs
    exact ⟨0, t, by simpa using h⟩
  | k + 1, hk => by
    obtain ⟨i, t, h⟩ := round_at hs ok hl hr k (by omega)
    have e1 : r.take (k + 1) = r.take k ++ [r[k]] := by rw [List.take_add_one, List.getElem?_eq_getElem (by omega)]; rfl
    have n1 := nc_round hs ok hl hr (k + 1) hk
    have oe : Ok s r[k] := ok _ (List.getElem_mem _)
    have hlen : (r.take k ++ [r[k]]).length = k + 1 := by simp; omega
    rw [e1] at n1 ⊢
    obtain ⟨j, hj⟩ := (h.ex hs oe).mp (by rw [n1, hlen])
    obtain ⟨_, u, hu⟩ := h.next hs hj
    exact ⟨j, u, hu⟩
end Rx

set_option Elab.async false
set_option linter.all false
set_option maxRecDepth 100000
set_option autoImplicit false
namespace Rx
open PySem
/-! ### lists_from, sizes up to 5 -/
theorem lr2 (c : Cf) (row : Option D) (w : Om) : (permsOf (rngI 2)).map (fR 2 c row w) = (permsOf (rngI 2)).map (oR 2 w) := by kernel_rfl
theorem lr3 (c : Cf) (row : Option D) (w : Om) : (permsOf (rngI 3)).map (fR 3 c row w) = (permsOf (rngI 3)).map (oR 3 w) := by kernel_rfl
theorem lr4 (c : Cf) (row : Option D) (w : Om) : (permsOf (rngI 4)).map (fR 4 c row w) = (permsOf (rngI 4)).map (oR 4 w) := by kernel_rfl
theorem lr5 (c : Cf) (row : Option D) (w : Om) : (permsOf (rngI 5)).map (fR 5 c row w) = (permsOf (rngI 5)).map (oR 5 w) := by kernel_rfl
theorem atF5 : ∀ s : Nat, 2 ≤ s ∧ s ≤ 5 → ∀ ms ∈ permsOf (rngI s), ∀ (c : Cf) (row : Option D) (w : Om), fR s c row w ms = oR s w ms
  | 2, _ => fun ms hm c row w => map_all (lr2 c row w) ms hm
  | 3, _ => fun ms hm c row w => map_all (lr3 c row w) ms hm
  | 4, _ => fun ms hm c row w => map_all (lr4 c row w) ms hm
  | 5, _ => fun ms hm c row w => map_all (lr5 c row w) ms hm
  | 0, h => by omega
  | 1, h => by omega
  | n + 6, h => by omega
/-- all round lists that go on from a state of the table -/
def lfT (s : Nat) : Nat → List (Int × Int) → Nat → List (List (Int × Int))
  | 0, r, _ => [r]
  | k + 1, r, i => match (tab s)[i]? with
    | none => []
    | some t => t.2.2.flatMap fun q => lfT s k (r ++ [q.1]) q.2
theorem flatLen {α β : Type} {f : α → List β} {m : Nat} : ∀ {l : List α}, (∀ a ∈ l, (f a).length ≤ m) → (l.flatMap f).length ≤ l.length * m
  | [], _ => by simp
  | a :: l, h => by
    have := flatLen (l := l) fun b hb => h b (List.mem_cons_of_mem _ hb)
    have := h a List.mem_cons_self
    rw [List.flatMap_cons, List.length_append, List.length_cons, Nat.add_mul]
    omega
def lfB : Sx := (sIf (dPrim .gt (dCons (dCall 16 (dCons (dVar 0) (dCons (dPrim .add (dCons (dVar 1) (dCons (dPrim .tup (dCons (dVar 3) dNil)) dNil))) dNil))) (dCons (dC (.int 0)) dNil)))
    (sExtend 2 (dCall 65 (dCons (dVar 0) (dCons (dPrim .add (dCons (dVar 1) (dCons (dPrim .tup (dCons (dVar 3) dNil)) dNil))) dNil))))
    sPass)
structure HLf (T : Tb) : Prop where
  h5 : T i_moved = some f_moved
  h6 : T i_result_of = some f_result_of
  h7 : T i_rest_groups = some f_rest_groups
  h8 : T i_completions_of = some f_completions_of
  h9 : T i_every_exchange = some f_every_exchange
  h10 : T i_lists_from = some f_lists_from
section
variable {T : Tb} {n : Nat} {w : Om}
theorem evx53 (h : T i_every_exchange = some f_every_exchange) {s : Nat} (hs : 2 ≤ s ∧ s ≤ 6) : run T (n + 1) i_every_exchange [.int (s : Nat)] w = some (.val (.list ((pairsL s).map pr)), w) := by
  rw [run_at h rfl (by decide)]
  have : s = 2 ∨ s = 3 ∨ s = 4 ∨ s = 5 ∨ s = 6 := by omega
  rcases this with rfl | rfl | rfl | rfl | rfl <;> rfl
theorem lfB_ok (h : HLf T) {s : Nat} (hs : 2 ≤ s ∧ s ≤ 5) {r : List (Int × Int)} (ok : OkR s r) (hl : r.length + 2 ≤ s) {e : Int × Int} (oe : Ok s e) (L : List (List (Int × Int))) (acc : List D) (hz : acc.length + L.length ≤ 100000) {b : Bool} (hb : nc s (resL s (r ++ [e])) = (r ++ [e]).length + 1 ↔ b = true)
    (ih : b = true → run T (n + 4) 65 [.int (s : Nat), dR (r ++ [e])] w = some (.val (.list (L.map dR)), w)) :
    lfB (run T (n + 4)) [some (.int (s : Nat)), some (dR r), some (.list acc), some (pr e)] w = some (.next [some (.int (s : Nat)), some (dR r), some (.list (acc ++ if b = true then L.map dR else [])), some (pr e)], w) := by
  obtain ⟨v, ev, _, vp⟩ := comp_ok (T := T) (n := n) (w := w) (atF5 s hs) (by omega) h.h5 h.h6 h.h7 h.h8 (r ++ [e]) (ok.snoc oe) (by simp; omega)
  replace ev : run T (n + 4) 16 [.int (s : Nat), dR (r ++ [e])] w = _ := ev
  have tp : tupP [pr e] = some (dR [e]) := rfl
  have a1 : addP (dR r) (dR [e]) = some (dR (r ++ [e])) := add_dR (by simp; unfold zL; omega)
  have pg : prim .gt [.int v, .int 0] = some (.bool b) := by
    rw [p_gt]
    congr 2
    rw [Bool.eq_iff_iff, decide_eq_true_eq, ← hb, ← vp]
  unfold lfB
  cases b with
  | false =>
    rw [if_neg (by decide), List.append_nil]
    simp only [e_sIf, e_dPrim, e_dCons, e_dVar, e_dC, e_dNil, e_dCall, List.getElem?_cons_succ, List.getElem?_cons_zero, p_tup, tp, Option.map_some, p_add, a1, ev, pg, truth_bool, e_sPass]
  | true =>
    rw [if_pos rfl]
    have ih := ih rfl
    have ex : sExtend 2 (dCall 65 (dCons (dVar 0) (dCons (dPrim .add (dCons (dVar 1) (dCons (dPrim .tup (dCons (dVar 3) dNil)) dNil))) dNil))) (run T (n + 4)) [some (.int (s : Nat)), some (dR r), some (.list acc), some (pr e)] w = some (.next [some (.int (s : Nat)), some (dR r), some (.list (acc ++ L.map dR)), some (pr e)], w) := by
      unfold sExtend
      simp only [e_dCall, e_dPrim, e_dCons, e_dVar, e_dNil, List.getElem?_cons_succ, List.getElem?_cons_zero, p_tup, tp, Option.map_some, p_add, a1, ih]
      rw [if_pos (by rw [List.length_map]; unfold zL; omega)]
      rfl
    simp only [e_sIf, e_dPrim, e_dCons, e_dVar, e_dC, e_dNil, e_dCall, List.getElem?_cons_succ, List.getElem?_cons_zero, p_tup, tp, Option.map_some, p_add, a1, ev, pg, truth_bool, ex]
theorem lf_loop (h : HLf T) {s : Nat} (hs : 2 ≤ s ∧ s ≤ 5) {r : List (Int × Int)} (ok : OkR s r) (hl : r.length + 2 ≤ s) (f : Int × Int → List (List (Int × Int))) (m : Nat) (hf : ∀ c, (f c).length ≤ m) (g : Int × Int → Bool)
    (hg : ∀ e, Ok s e → (nc s (resL s (r ++ [e])) = (r ++ [e]).length + 1 ↔ g e = true))
    (ih : ∀ e, Ok s e → g e = true → run T (n + 4) 65 [.int (s : Nat), dR (r ++ [e])] w = some (.val (.list ((f e).map dR)), w)) :
    ∀ (l : List (Int × Int)), (∀ c ∈ l, Ok s c) → ∀ (acc : List D), acc.length + l.length * m + m ≤ 100000 → ∀ o3 : Option D, ∃ o3', forGo (run T (n + 4)) (.nm 3) lfB (l.map pr) [some (.int (s : Nat)), some (dR r), some (.list acc), o3] w = some (.next [some (.int (s : Nat)), some (dR r), some (.list (acc ++ ((l.filter g).flatMap f).map dR)), o3'], w)
  | [], _, acc, _, o3 => ⟨o3, by simp [forGo]⟩
  | c :: l, hm, acc, hz, o3 => by
    rw [List.length_cons, Nat.add_mul] at hz
    have hc := hf c
    obtain ⟨o3', e⟩ := lf_loop h hs ok hl f m hf g hg ih l (fun d hd => hm d (List.mem_cons_of_mem _ hd)) (acc ++ if g c = true then (f c).map dR else []) (by
      split
      · rw [List.length_append, List.length_map]; omega
      · rw [List.append_nil]; omega) (some (pr c))
    refine ⟨o3', ?_⟩
    have oc := hm c List.mem_cons_self
    rw [List.map_cons, forGo_cons (r1 := [some (.int (s : Nat)), some (dR r), some (.list acc), some (pr c)]) rfl (lfB_ok h hs ok hl oc (f c) acc (by omega) (hg c oc) (ih c oc)), e, List.filter_cons]
    cases g c with
    | true => simp
    | false => simp
theorem lf_ok (h : HLf T) {s : Nat} (hs : 2 ≤ s ∧ s ≤ 5) : ∀ (k : Nat) (r : List (Int × Int)) (i : Nat) (t : Row), At s r i t → r.length + k + 1 = s → run T (n + k + 5) 65 [.int (s : Nat), dR r] w = some (.val (.list ((lfT s k r i).map dR)), w) ∧ (lfT s k r i).length ≤ 10 ^ k
  | 0, r, i, t, ha, hk => by
    refine ⟨?_, Nat.le_refl _⟩
    show run T (n + 5) i_lists_from [.int (s : Nat), dR r] w = _
    rw [run_at h.h10 rfl (by decide)]
    show fin (b_lists_from (run T (n + 4)) [some (.int (s : Nat)), some (dR r), none, none] w) = _
    obtain ⟨v, ev, _, vp⟩ := comp_ok (T := T) (n := n) (w := w) (atF5 s hs) (by omega) h.h5 h.h6 h.h7 h.h8 r ha.ok (by omega)
    replace ev : run T (n + 4) 16 [.int (s : Nat), dR r] w = _ := ev
    have e1 : eqP (.int (r.length : Nat)) (.int ((s : Int) - 1)) = some (.bool true) := by rw [eqP_int, decide_eq_true (by omega)]
    have pg : prim .gt [.int v, .int 0] = some (.bool true) := by
      rw [p_gt, decide_eq_true (vp.mpr (ha.row (by omega)).1)]
    have l1 : lstP [dR r] = some (.list [dR r]) := rfl
    unfold b_lists_from
    simp only [e_sSeq, e_sIf, e_dPrim, e_dCons, e_dVar, e_dC, e_dNil, e_dCall, e_dIte, List.getElem?_cons_succ, List.getElem?_cons_zero, p_len, lenP_dR, Option.map_some, p_sub, subP_int, p_eq, e1, truth_bool, e_sRet, ev, pg, p_lst, l1]
    rfl
  | k + 1, r, i, t, ha, hk => by
    have hs6 : 2 ≤ s ∧ s ≤ 6 := by omega
    have hun : lfT s (k + 1) r i = t.2.2.flatMap fun q => lfT s k (r ++ [q.1]) q.2 := by
      rw [lfT, ha.at_]
    have k2 : (pairsL s).filter (fun e => nc s (t.1.map (mv e)) == t.2.1 + 2) = t.2.2.map (·.1) := by
      have q := tabOk s hs6 t (List.mem_of_getElem? ha.at_)
      unfold rowOk at q
      simp only [Bool.and_eq_true, beq_iff_eq] at q
      exact q.1.2
    have nd : (t.2.2.map (·.1)).Nodup := by
      rw [← k2]
      refine List.Pairwise.filter _ ?_
      have : s = 2 ∨ s = 3 ∨ s = 4 ∨ s = 5 := by omega
      rcases this with rfl | rfl | rfl | rfl <;> decide
    -- the place in the table of an exchange that may follow
    have one : ∀ q ∈ t.2.2, (t.2.2.find? fun p => p.1 == q.1) = some q := fun q hq => by
      have key : ∀ l : List ((Int × Int) × Nat), (l.map (·.1)).Nodup → q ∈ l → (l.find? fun p => p.1 == q.1) = some q := fun l => by
        induction l with
        | nil => intro _ h; cases h
        | cons p l ih =>
          intro nd h
          rw [List.map_cons, List.nodup_cons] at nd
          rcases List.mem_cons.mp h with e | h
          · subst e; simp
          · rw [List.find?_cons_of_neg, ih nd.2 h]
            intro z
            have z := beq_iff_eq.mp z
            exact nd.1 (z ▸ List.mem_map.mpr ⟨q, h, rfl⟩)
      exact key _ nd hq
    let f : Int × Int → List (List (Int × Int)) := fun e => match t.2.2.find? fun p => p.1 == e with
      | none => []
      | some q => lfT s k (r ++ [q.1]) q.2
    let g : Int × Int → Bool := fun e => nc s (t.1.map (mv e)) == t.2.1 + 2
    have hg : ∀ e, Ok s e → (nc s (resL s (r ++ [e])) = (r ++ [e]).length + 1 ↔ g e = true) := fun e oe => by
      show _ ↔ (nc s (t.1.map (mv e)) == t.2.1 + 2) = true
      rw [resL_snoc, ha.ms, beq_iff_eq, List.length_append, List.length_singleton, ha.lv]
    have rec_ : ∀ q ∈ t.2.2, run T (n + k + 5) 65 [.int (s : Nat), dR (r ++ [q.1])] w = some (.val (.list ((lfT s k (r ++ [q.1]) q.2).map dR)), w) ∧ (lfT s k (r ++ [q.1]) q.2).length ≤ 10 ^ k := fun q hq => by
      obtain ⟨_, u, hu⟩ := ha.next hs6 (e := q.1) (j := q.2) hq
      exact lf_ok h hs k _ _ u hu (by simp; omega)
    have fq : ∀ q ∈ t.2.2, f q.1 = lfT s k (r ++ [q.1]) q.2 := fun q hq => by
      simp only [f, one q hq]
    have hf : ∀ e, (f e).length ≤ 10 ^ k := fun e => by
      simp only [f]
      cases hq : t.2.2.find? (fun p : (Int × Int) × Nat => p.1 == e) with
      | none => exact Nat.zero_le _
      | some q => exact (rec_ q (List.mem_of_find?_eq_some hq)).2
    have ih : ∀ e, Ok s e → g e = true → run T (n + k + 5) 65 [.int (s : Nat), dR (r ++ [e])] w = some (.val (.list ((f e).map dR)), w) := fun e oe he => by
      have : e ∈ t.2.2.map (·.1) := by rw [← k2]; exact List.mem_filter.mpr ⟨pairsL_in hs6 oe, he⟩
      obtain ⟨q, hq, rfl⟩ := List.mem_map.mp this
      rw [fq q hq]
      exact (rec_ q hq).1
    have flat : ((pairsL s).filter g).flatMap f = lfT s (k + 1) r i := by
      rw [hun, show (pairsL s).filter g = t.2.2.map (·.1) from k2, List.flatMap_map]
      have key : ∀ l : List ((Int × Int) × Nat), (∀ q ∈ l, q ∈ t.2.2) → (l.flatMap fun q => f q.1) = l.flatMap fun q => lfT s k (r ++ [q.1]) q.2 := fun l => by
        induction l with
        | nil => intro _; rfl
        | cons q l ih =>
          intro hl
          rw [List.flatMap_cons, List.flatMap_cons, ih fun p hp => hl p (List.mem_cons_of_mem _ hp), fq q (hl q List.mem_cons_self)]
      exact key _ fun q hq => hq
    have pl : (pairsL s).length ≤ 10 := by
      have : s = 2 ∨ s = 3 ∨ s = 4 ∨ s = 5 := by omega
      rcases this with rfl | rfl | rfl | rfl <;> decide
    have k4 : 10 ^ k ≤ 10 ^ 3 := Nat.pow_le_pow_right (by decide) (by omega)
    refine ⟨?_, ?_⟩
    · show run T (n + k + 1 + 5) i_lists_from [.int (s : Nat), dR r] w = _
      rw [run_at h.h10 rfl (by decide)]
      show fin (b_lists_from (run T (n + k + 5)) [some (.int (s : Nat)), some (dR r), none, none] w) = _
      have e1 : eqP (.int (r.length : Nat)) (.int ((s : Int) - 1)) = some (.bool false) := by rw [eqP_int, decide_eq_false (by omega)]
      have l0 : lstP [] = some (.list []) := rfl
      have ev := evx53 (T := T) (n := n + k + 4) (w := w) h.h9 hs6
      replace ev : run T (n + k + 5) 14 [.int (s : Nat)] w = _ := ev
      obtain ⟨o3, e⟩ := lf_loop (T := T) (n := n + k + 1) (w := w) h hs ha.ok (by omega) f (10 ^ k) hf g hg ih (pairsL s) (fun c hc => pairsL_ok hc) [] (by
        have : (pairsL s).length * 10 ^ k ≤ 10 * 10 ^ 3 := Nat.mul_le_mul pl k4
        simp only [List.length_nil]
        omega) none
      rw [flat, List.nil_append] at e
      unfold b_lists_from
      rw [seq_next (r1 := [some (.int (s : Nat)), some (dR r), none, none]) (w1 := w) (by
        simp only [e_sIf, e_dPrim, e_dCons, e_dVar, e_dC, e_dNil, List.getElem?_cons_succ, List.getElem?_cons_zero, p_len, lenP_dR, Option.map_some, p_sub, subP_int, p_eq, e1, truth_bool, e_sPass])]
      rw [seq_next (r1 := [some (.int (s : Nat)), some (dR r), some (.list []), none]) (w1 := w) (by
        simp only [e_sAsg, e_dPrim, e_dNil, p_lst, l0, Option.map_some]
        rfl)]
      have hfo : sFor (iSeq (dCall 14 (dCons (dVar 0) dNil))) (.nm 3) lfB (run T (n + k + 5)) [some (.int (s : Nat)), some (dR r), some (.list []), none] w = forGo (run T (n + k + 5)) (.nm 3) lfB ((pairsL s).map pr) [some (.int (s : Nat)), some (dR r), some (.list []), none] w := for_of (by
        simp only [e_iSeq, e_dCall, e_dCons, e_dVar, e_dNil, List.getElem?_cons_zero, ev]
        rfl)
      exact (congrArg fin (seq_next (hfo.trans e))).trans rfl
    · rw [← flat]
      refine Nat.le_trans (flatLen fun e _ => hf e) ?_
      rw [Nat.pow_succ, Nat.mul_comm]
      refine Nat.mul_le_mul_left _ (Nat.le_trans (List.length_filter_le _ _) pl)
/-- every round list goes on from the table's first state -/
theorem lf_mem {s : Nat} (hs : 2 ≤ s ∧ s ≤ 6) : ∀ (k : Nat) (r pre : List (Int × Int)) (i : Nat) (t : Row), r.length = k → At s pre i t → OkR s (pre ++ r) → (pre ++ r).length + 1 = s → resL s (pre ++ r) = cyc s → pre ++ r ∈ lfT s k pre i
  | 0, r, pre, i, t, hl, _, _, _, _ => by
    rw [List.eq_nil_of_length_eq_zero hl, List.append_nil]
    exact List.mem_singleton.mpr rfl
  | k + 1, [], _, _, _, hl, _, _, _, _ => by cases hl
  | k + 1, e :: r, pre, i, t, hl, ha, ok, hs2, hr => by
    have e1 : pre ++ e :: r = (pre ++ [e]) ++ r := by simp
    have oe : Ok s e := ok e (List.mem_append_right _ (.head _))
    have n1 := nc_round hs ok hs2 hr (pre.length + 1) (by simp)
    have e2 : (pre ++ e :: r).take (pre.length + 1) = pre ++ [e] := by rw [e1, List.take_left' (by simp)]
    rw [e2] at n1
    obtain ⟨j, hj⟩ := (ha.ex hs oe).mp (by rw [n1]; simp)
    obtain ⟨_, u, hu⟩ := ha.next hs hj
    rw [e1] at ok hs2 hr ⊢
    have z := lf_mem hs k r (pre ++ [e]) j u (by simpa using hl) hu ok hs2 hr
    rw [lfT, ha.at_]
    exact List.mem_flatMap.mpr ⟨(e, j), hj, z⟩
theorem alll_ok (h : HLf T) (h0 : T i_in_range = some f_in_range) (h1 : T i_check_size = some f_check_size) (h2 : T i_all_lists = some f_all_lists) {s : Nat} (hs : 2 ≤ s ∧ s ≤ 5) : run T (n + s + 5) i_all_lists [.int (s : Nat)] w = some (.val (.list ((lfT s (s - 1) [] 0).map dR)), w) := by
  obtain ⟨t, ht⟩ := at_nil s (by omega)
  have e := (lf_ok (T := T) (n := n) (w := w) h hs (s - 1) [] 0 t ht (by simp; omega)).1
  rw [show n + (s - 1) + 5 = n + s + 4 by omega] at e
  rw [show n + s + 5 = (n + s + 4) + 1 by omega, run_at h2 rfl (by decide)]
  show fin (b_all_lists (run T (n + s + 4)) [some (.int (s : Nat))] w) = _
  have cs := csize_ok (T := T) (n := n + s + 2) (w := w) h0 h1 (s : Int) (by omega)
  replace cs : run T (n + s + 4) 2 [.int (s : Nat)] w = _ := cs
  have t0 : tupP [] = some (dR []) := rfl
  unfold b_all_lists
  simp only [e_sSeq, e_sExpr, e_sRet, e_dCall, e_dPrim, e_dCons, e_dVar, e_dNil, List.getElem?_cons_zero, cs, p_tup, t0, Option.map_some, e]
  rfl
end
end Rx

set_option Elab.async false
set_option linter.all false
set_option maxRecDepth 100000
set_option autoImplicit false
namespace Rx
open PySem
/-! ### lists of rows as data -/
theorem alk_rws : ∀ a b : List (Int × Int), alkAll (a.map pr) (b.map pr) = true
  | [], _ => rfl
  | _ :: _, [] => rfl
  | x :: a, y :: b => by
    show (alk (pr x) (pr y) && alkAll (a.map pr) (b.map pr)) = true
    rw [alk_rws a b]; rfl
theorem shal_row (k : Nat) (r : List (Int × Int)) : shal (k + 2) (dR r) = true := by
  show ((r.map pr).all (shal (k + 1))) = true
  simp only [List.all_eq_true, List.mem_map]
  rintro d ⟨p, _, rfl⟩
  exact shal_pr k p
theorem shal_rws (F : List (List (Int × Int))) : shal 8 (.list (F.map dR)) = true := by
  show ((F.map dR).all (shal 7)) = true
  simp only [List.all_eq_true, List.mem_map]
  rintro d ⟨r, _, rfl⟩
  exact shal_row 5 r
theorem srtOk_rws {F : List (List (Int × Int))} (h0 : ∀ r ∈ F, r ≠ []) (hl : F.length ≤ 100000) : srtOk (F.map dR) = true := by
  unfold srtOk
  simp only [Bool.and_eq_true, Bool.or_eq_true, decide_eq_true_eq, List.all_eq_true, List.mem_map]
  refine ⟨⟨⟨?_, .inl ?_⟩, ?_⟩, by rw [List.length_map]; unfold zL; omega⟩
  · rintro _ ⟨p, _, rfl⟩ _ ⟨q, _, rfl⟩; exact alk_rws p q
  · rintro _ ⟨p, hp, rfl⟩
    cases p with
    | nil => exact absurd rfl (h0 _ hp)
    | cons _ _ => rfl
  · rintro _ ⟨p, _, rfl⟩; exact shal_row 6 p
theorem prsOf_rws : ∀ r : List (Int × Int), prsOf (r.map pr) = some r
  | [] => rfl
  | p :: r => by
    show (prsOf (r.map pr)).map ((p.1, p.2) :: ·) = _
    rw [prsOf_rws r]; rfl
theorem rwsOf_rws : ∀ F : List (List (Int × Int)), rwsOf (F.map dR) = some F
  | [] => rfl
  | r :: F => by
    show ((prsOf (r.map pr)).bind fun ps => (rwsOf (F.map dR)).map (ps :: ·)) = _
    rw [prsOf_rws r, rwsOf_rws F]; rfl
/-- ascending, no two hash alike, none empty -/
def ssB (F : List (List (Int × Int))) : Bool := decide (F.length ≤ 300) && (ndI (F.map rowH) && (strB (F.map dR) && F.all fun r => !r.isEmpty))
theorem ssl_rws {F : List (List (Int × Int))} (h : ssB F = true) : sslP (.list (F.map dR)) = some (.list (F.map dR)) := by
  unfold ssB at h
  simp only [Bool.and_eq_true, decide_eq_true_eq, List.all_eq_true] at h
  obtain ⟨h1, h2, h3, h4⟩ := h
  have ok : srtOk (F.map dR) = true := srtOk_rws (fun r hr e => by have := h4 r hr; rw [e] at this; cases this) (by omega)
  show ((rwsOf (F.map dR)).bind fun rs => if (decide (rs.length ≤ 300) && (ndI (rs.map rowH) && (strB (F.map dR) && srtOk (F.map dR)))) = true then some (PyData.list (F.map dR)) else none) = _
  rw [rwsOf_rws]
  show (if (decide (F.length ≤ 300) && (ndI (F.map rowH) && (strB (F.map dR) && srtOk (F.map dR)))) = true then some (PyData.list (F.map dR)) else none) = _
  rw [decide_eq_true h1, h2, h3, ok]
  rfl
theorem inP_rws {r : List (Int × Int)} {F : List (List (Int × Int))} (h : r ∈ F) : inP (dR r) (.list (F.map dR)) = some true := by
  have e : eqOk (dR r) (.list (F.map dR)) = true := by unfold eqOk; rw [shal_row 6]; rfl
  show (if eqOk (dR r) (.list (F.map dR)) = true then some ((F.map dR).any fun z => eqd z (dR r)) else none) = _
  rw [if_pos e]
  congr 1
  exact List.any_eq_true.mpr ⟨dR r, List.mem_map_of_mem h, eqd_self 8 _ (shal_row 6 r)⟩
theorem neP_rws (F : List (List (Int × Int))) : neP (.list (F.map dR)) (.list (F.map dR)) = some (.bool false) := neP_self (shal_rws F)
/-- one of a list of rows -/
theorem pick_row {F : List (List (Int × Int))} (h : 0 < F.length) (x : Int) : ∃ r ∈ F, ixP (.list (F.map dR)) (.int (x % (F.length : Int))) = some (dR r) := by
  have h1 := Int.emod_nonneg x (show (F.length : Int) ≠ 0 by omega)
  have h2 := Int.emod_lt_of_pos x (show (0 : Int) < (F.length : Int) by omega)
  obtain ⟨k, hk⟩ : ∃ k : Nat, x % (F.length : Int) = (k : Nat) := ⟨(x % (F.length : Int)).toNat, by omega⟩
  have hk2 : k < F.length := by omega
  rw [hk]
  refine ⟨F[k], List.getElem_mem hk2, ?_⟩
  show ((ixAt (F.map dR).length ((k : Nat) : Int)).bind fun j => (F.map dR)[j]?) = _
  unfold ixAt
  rw [if_pos (by omega), if_pos (by rw [List.length_map]; omega)]
  show (F.map dR)[((k : Nat) : Int).toNat]? = _
  rw [Int.toNat_natCast, List.getElem?_map, List.getElem?_eq_getElem hk2]
  rfl
/-- all round lists -/
def allR (s : Nat) : List (List (Int × Int)) := lfT s (s - 1) [] 0
def chkA (s m : Nat) : Bool := decide ((allR s).length = m) && (ssB (allR s) && (allR s).all fun r => decide (resL s r = cyc s))
theorem ca2 : chkA 2 1 = true := by decide +kernel
theorem ca3 : chkA 3 3 = true := by decide +kernel
theorem ca4 : chkA 4 16 = true := by decide +kernel
theorem ca5 : chkA 5 125 = true := by decide +kernel
end Rx

set_option Elab.async false
set_option linter.all false
set_option maxRecDepth 100000
set_option autoImplicit false
namespace Rx
open PySem
/-! ### lists near to a list -/
def swL : List (Int × Int) → List (Int × Int)
  | p :: q :: e => q :: cj q p :: e
  | r => r
def swE : List (Int × Int) → List (Int × Int)
  | p :: q :: e => cj p q :: p :: e
  | r => r
def ltr (r : List (Int × Int)) (k : Nat) : List (Int × Int) := r.take k ++ swL (r.drop k)
def erl (r : List (Int × Int)) (k : Nat) : List (Int × Int) := r.take k ++ swE (r.drop k)
def nbR (s : Nat) (r : List (Int × Int)) : List (List (Int × Int)) := (List.range (s - 2)).flatMap fun k => [ltr r k, erl r k]
theorem ltr_at (p q : Int × Int) (e b : List (Int × Int)) : ltr (b ++ p :: q :: e) b.length = b ++ q :: cj q p :: e := by
  unfold ltr
  rw [List.take_left' rfl, List.drop_left' rfl]
  rfl
theorem erl_at (p q : Int × Int) (e b : List (Int × Int)) : erl (b ++ p :: q :: e) b.length = b ++ cj p q :: p :: e := by
  unfold erl
  rw [List.take_left' rfl, List.drop_left' rfl]
  rfl
theorem split_at {r : List (Int × Int)} {k : Nat} (hk : k + 2 ≤ r.length) : ∃ b p q e, r = b ++ p :: q :: e ∧ b.length = k := by
  refine ⟨r.take k, r[k], r[k + 1], r.drop (k + 2), ?_, by rw [List.length_take]; omega⟩
  rw [List.getElem_cons_drop (by omega : k + 1 < r.length), List.getElem_cons_drop (by omega : k < r.length), List.take_append_drop]
structure HMv (T : Tb) : Prop where
  in_range : T i_in_range = some f_in_range
  check_size : T i_check_size = some f_check_size
  is_exchange : T i_is_exchange = some f_is_exchange
  are_exchanges : T i_are_exchanges = some f_are_exchanges
  check_list : T i_check_list = some f_check_list
  moved : T i_moved = some f_moved
  through : T i_through = some f_through
  check_number : T i_check_number = some f_check_number
  later_of : T i_later_of = some f_later_of
  earlier_of : T i_earlier_of = some f_earlier_of
section
variable {T : Tb} {n : Nat} {w : Om}
theorem later_R (h : HMv T) {r : List (Int × Int)} {k : Nat} (hk : k + 2 ≤ r.length) (hl : r.length ≤ 1000) : run T (n + 3) 52 [dR r, .int (k : Nat)] w = some (.val (dR (ltr r k)), w) := by
  obtain ⟨b, p, q, e, rfl, rfl⟩ := split_at hk
  rw [ltr_at]
  exact later_ok h.moved h.through h.later_of b e p q (by simp at hl; omega)
theorem earlier_R (h : HMv T) {r : List (Int × Int)} {k : Nat} (hk : k + 2 ≤ r.length) (hl : r.length ≤ 1000) : run T (n + 3) 53 [dR r, .int (k : Nat)] w = some (.val (dR (erl r k)), w) := by
  obtain ⟨b, p, q, e, rfl, rfl⟩ := split_at hk
  rw [erl_at]
  exact earlier_ok h.moved h.through h.earlier_of b e p q (by simp at hl; omega)
theorem mvl_R (h : HMv T) (h2 : T i_move_later = some f_move_later) {s : Nat} (hs : 2 ≤ s ∧ s ≤ 6) {r : List (Int × Int)} (ok : OkR s r) (hl : r.length + 1 = s) {k : Nat} (hk : k + 2 ≤ r.length) : run T (n + 5) 54 [.int (s : Nat), dR r, .int (k : Nat)] w = some (.val (dR (ltr r k)), w) := by
  show run T (n + 5) i_move_later [.int (s : Nat), dR r, .int (k : Nat)] w = _
  rw [run_at h2 rfl (by decide)]
  show fin (b_move_later (run T (n + 4)) [some (.int (s : Nat)), some (dR r), some (.int (k : Nat))] w) = _
  have e1 := clist_ok (T := T) (n := n) (w := w) h.in_range h.check_size h.is_exchange h.are_exchanges h.check_list (s : Int) (by omega) r ok (by omega)
  replace e1 : run T (n + 4) 5 [.int (s : Nat), dR r] w = _ := e1
  have e2 := cnum_ok (T := T) (n := n + 2) (w := w) h.in_range h.check_number r (k : Nat) (by omega)
  replace e2 : run T (n + 4) 51 [dR r, .int (k : Nat)] w = _ := e2
  have e3 := later_R (T := T) (n := n + 1) (w := w) h hk (by omega)
  unfold b_move_later
  simp only [e_sSeq, e_sExpr, e_sRet, e_dCall, e_dCons, e_dVar, e_dNil, List.getElem?_cons_succ, List.getElem?_cons_zero, e1, e2, e3]
  rfl
theorem mve_R (h : HMv T) (h2 : T i_move_earlier = some f_move_earlier) {s : Nat} (hs : 2 ≤ s ∧ s ≤ 6) {r : List (Int × Int)} (ok : OkR s r) (hl : r.length + 1 = s) {k : Nat} (hk : k + 2 ≤ r.length) : run T (n + 5) 55 [.int (s : Nat), dR r, .int (k : Nat)] w = some (.val (dR (erl r k)), w) := by
  show run T (n + 5) i_move_earlier [.int (s : Nat), dR r, .int (k : Nat)] w = _
  rw [run_at h2 rfl (by decide)]
  show fin (b_move_earlier (run T (n + 4)) [some (.int (s : Nat)), some (dR r), some (.int (k : Nat))] w) = _
  have e1 := clist_ok (T := T) (n := n) (w := w) h.in_range h.check_size h.is_exchange h.are_exchanges h.check_list (s : Int) (by omega) r ok (by omega)
  replace e1 : run T (n + 4) 5 [.int (s : Nat), dR r] w = _ := e1
  have e2 := cnum_ok (T := T) (n := n + 2) (w := w) h.in_range h.check_number r (k : Nat) (by omega)
  replace e2 : run T (n + 4) 51 [dR r, .int (k : Nat)] w = _ := e2
  have e3 := earlier_R (T := T) (n := n + 1) (w := w) h hk (by omega)
  unfold b_move_earlier
  simp only [e_sSeq, e_sExpr, e_sRet, e_dCall, e_dCons, e_dVar, e_dNil, List.getElem?_cons_succ, List.getElem?_cons_zero, e1, e2, e3]
  rfl
end
end Rx

set_option Elab.async false
set_option linter.all false
set_option maxRecDepth 100000
set_option autoImplicit false
namespace Rx
open PySem
def nbT2 : List (List Nat) := [[]]
def dT2 : List Nat := [0]
def nbT3 : List (List Nat) := [[1, 2], [2, 0], [0, 1]]
def dT3 : List Nat := [272,
  257,
  17]
def nbT4 : List (List Nat) := [[4, 8, 1, 2], [6, 11, 2, 0], [13, 13, 0, 1], [7, 14, 4, 4], [8, 0, 3, 3], [9, 9, 6, 7], [11, 1, 7, 5], [14, 3, 5, 6], [0, 4, 9, 10], [5, 5, 10, 8], [12, 15, 8, 9], [1, 6, 12, 12], [15, 10, 11, 11], [2, 2, 14, 15], [3, 7, 15, 13], [10, 12, 13, 14]]
def dT4 : List Nat := [3684826446090543376,
  3684528551167668481,
  2455344920344539153,
  2387808517582029618,
  3617290043614302753,
  3617272386698814243,
  3616974492046402066,
  2387790860685284131,
  2536143485810057761,
  2536143421099356978,
  1306360625158566706,
  2535810483808842258,
  1306062730506220323,
  1225597243813470498,
  1158043249116582451,
  76879099145167411]
def nbT5 : List (List Nat) := [[20, 50, 4, 8, 1, 2], [21, 51, 6, 11, 2, 0], [22, 52, 13, 13, 0, 1], [30, 66, 7, 14, 4, 4], [31, 67, 8, 0, 3, 3], [39, 75, 9, 9, 6, 7], [40, 76, 11, 1, 7, 5], [41, 77, 14, 3, 5, 6], [84, 84, 0, 4, 9, 10], [85, 85, 5, 5, 10, 8], [86, 86, 12, 15, 8, 9], [100, 100, 1, 6, 12, 12], [101, 101, 15, 10, 11, 11], [109, 109, 2, 2, 14, 15], [110, 110, 3, 7, 15, 13], [111, 111, 10, 12, 13, 14], [32, 87, 19, 23, 17, 17], [33, 88, 20, 20, 16, 16], [45, 102, 21, 21, 19, 19], [46, 103, 23, 16, 18, 18], [50, 0, 17, 17, 21, 22], [51, 1, 18, 18, 22, 20], [52, 2, 24, 24, 20, 21], [112, 112, 16, 19, 24, 24], [113, 113, 22, 22, 23, 23], [47, 114, 28, 28, 26, 27], [48, 115, 30, 30, 27, 25], [49, 116, 32, 32, 25, 26], [53, 53, 25, 25, 29, 29], [54, 54, 31, 33, 28, 28], [66, 3, 26, 26, 31, 31], [67, 4, 33, 29, 30, 30], [87, 16, 27, 27, 33, 33], [88, 17, 29, 31, 32, 32], [55, 55, 38, 42, 35, 36], [56, 56, 40, 45, 36, 34], [57, 57, 47, 47, 34, 35], [68, 68, 41, 48, 38, 38], [69, 69, 42, 34, 37, 37], [75, 5, 43, 43, 40, 41], [76, 6, 45, 35, 41, 39], [77, 7, 48, 37, 39, 40], [89, 89, 34, 38, 43, 44], [90, 90, 39, 39, 44, 42], [91, 91, 46, 49, 42, 43], [102, 18, 35, 40, 46, 46], [103, 19, 49, 44, 45, 45], [114, 25, 36, 36, 48, 49], [115, 26, 37, 41, 49, 47], [116, 27, 44, 46, 47, 48], [0, 20, 54, 58, 51, 52], [1, 21, 56, 61, 52, 50], [2, 22, 63, 63, 50, 51], [28, 28, 57, 64, 54, 54], [29, 29, 58, 50, 53, 53], [34, 34, 59, 59, 56, 57], [35, 35, 61, 51, 57, 55], [36, 36, 64, 53, 55, 56], [72, 92, 50, 54, 59, 60], [73, 93, 55, 55, 60, 58], [74, 94, 62, 65, 58, 59], [80, 104, 51, 56, 62, 62], [81, 105, 65, 60, 61, 61], [117, 117, 52, 52, 64, 65], [118, 118, 53, 57, 65, 63], [119, 119, 60, 62, 63, 64], [3, 30, 68, 70, 67, 67], [4, 31, 72, 72, 66, 66], [37, 37, 70, 66, 69, 69], [38, 38, 73, 73, 68, 68], [82, 120, 66, 68, 71, 71], [83, 121, 74, 74, 70, 70], [92, 58, 67, 67, 73, 74], [93, 59, 69, 69, 74, 72], [94, 60, 71, 71, 72, 73], [5, 39, 78, 78, 76, 77], [6, 40, 80, 80, 77, 75], [7, 41, 82, 82, 75, 76], [95, 95, 75, 75, 79, 79], [96, 96, 81, 83, 78, 78], [104, 61, 76, 76, 81, 81], [105, 62, 83, 79, 80, 80], [120, 70, 77, 77, 83, 83], [121, 71, 79, 81, 82, 82], [8, 8, 88, 92, 85, 86], [9, 9, 90, 95, 86, 84], [10, 10, 97, 97, 84, 85], [16, 32, 91, 98, 88, 88], [17, 33, 92, 84, 87, 87], [42, 42, 93, 93, 90, 91], [43, 43, 95, 85, 91, 89], [44, 44, 98, 87, 89, 90], [58, 72, 84, 88, 93, 94], [59, 73, 89, 89, 94, 92], [60, 74, 96, 99, 92, 93], [78, 78, 85, 90, 96, 96], [79, 79, 99, 94, 95, 95], [106, 122, 86, 86, 98, 99], [107, 123, 87, 91, 99, 97], [108, 124, 94, 96, 97, 98], [11, 11, 102, 104, 101, 101], [12, 12, 106, 106, 100, 100], [18, 45, 104, 100, 103, 103], [19, 46, 107, 107, 102, 102], [61, 80, 100, 102, 105, 105], [62, 81, 108, 108, 104, 104], [122, 97, 101, 101, 107, 108], [123, 98, 103, 103, 108, 106], [124, 99, 105, 105, 106, 107], [13, 13, 113, 117, 110, 111], [14, 14, 115, 120, 111, 109], [15, 15, 122, 122, 109, 110], [23, 23, 116, 123, 113, 113], [24, 24, 117, 109, 112, 112], [25, 47, 118, 118, 115, 116], [26, 48, 120, 110, 116, 114], [27, 49, 123, 112, 114, 115], [63, 63, 109, 113, 118, 119], [64, 64, 114, 114, 119, 117], [65, 65, 121, 124, 117, 118], [70, 82, 110, 115, 121, 121], [71, 83, 124, 119, 120, 120], [97, 106, 111, 111, 123, 124], [98, 107, 112, 116, 124, 122], [99, 108, 119, 121, 122, 123]]
def dT5 : List Nat := [1308553744950118370088187517597497701503214629599125363392145253403348823426483637327119815837454877906677411762767488260583033054512319257315921436944,
  1308553744950118370076357460236259858086091650225383664274232313368031497413943231340359958524063498679752563929029102216177212020828128028042746540289,
  1090327704423708912099138261837412051414845520954565930236295889461686463777439082739893463709426022118906428703388654761451320662423341974163909914641,
  1090274842713328900652535813483900195218065376428824372259601142505619293024603992285402820145352894151958145079244605959398665040319822494664086324018,
  1308500883239738358641585069243985845306434485073393137685209444895402694765666076968420876841164312459288389714036057063524636020398944088198382359073,
  1308500883239738358641582181087875909131682053658961326788094118350528046250460270492475772919603262688492150707407192859819498846569458919983502533411,
  1308500883239738358629752123726638065714559074285228923769972703803631048802137474523151965801034505623660069418777333451574803809981557866039879082514,
  1090274842713328900652532925327790259043312945014392597957987599933547906003922204481701873651195441408122642487765019490603509006726864232249832903459,
  1090381190331406927606259192666630172592057005695035392860267745970411316034251715714909318924252481578721689323715774577466339670956287151058117009953,
  1090381190331406927606259192666630130891520303788240332907330225572729507727709894389581253970183163034525759527183000168204889298794910965242847703858,
  872155149804997469605379879544790271303889099182846409419109753741564965514609338129822457075795403118786374789351355993389942508538693632384041104178,
  1090381190331406927594423358993172582419444130530026232463004509255518858787385429508341375626353692540463817992841129842666755069638278014594873242130,
  872155149804997469593549822183552427886766119809114006400988474963911984198143657592425984258389562992816424813675479801900876134233852096710312145699,
  872101663897299454098264725027791939075109073457641115988200335735782995319475381908620722007176331450698886872403052260890734154312649669552314196258,
  872048802186919442651659388518170188404113199424272103167119172451162515290552264758693343693786694173261221583769737006790581961009304611998350316083,
  653929109278588011616330623784704621215519990538277680589003506863072851604672282617185529815006061804775584506499356987324136091079077240466104853043,
  860170757024866431646540172211303986391705658346425396708138201963508400010155232991245306891566185560215709176574040974397606819631876718502240080963,
  1078396797551275889647419485333143887679913637939270690181915275312052320985112017380091110230343537340046923086756336380445317899499377738321843405618,
  1078396797551275889635583672730845302696434781285905663296084296725838289645788410012165238272332042909237912193529671502814424825097705198426517689123,
  860170757024866431634710114850066142974582678972692993689491367903832145570082773398069497318427976843929255954306376627679873162632887396288704111668,
  1296569352220785996876313493185086927839765879778552592432199130126974442313439436419834484550397777441207021757269378472596038058931628066296400327201,
  1296569352220785996864483435823849084422642900404810893314286190091657116300899030433074627237006398214282173923530992428190217025247436837023225430546,
  1078343311694376538887264237425001277751396771133993159276349766185312082664394881832608132422368921653436038697890544973464325666842650783144388804898,
  641944716498456973657490916451218336303336549701856667878551399259110644693890685456160573554542238679100334739485147081818825646032891219643709350724,
  860117271167967080886390679544222160222446158964111591460446935624487902083702338071215192664251434515313618644189774746706917299695544927488325210675,
  860114137933121215663992058590307130805447928614018315324091988152987713641683392557812546860206989505366051409517504775156492577998075549185064842853,
  860061276270735046239027951347652819134329873417956484048106135101331023739898233132673912436723205910282939305554625652739950015021758145381890467156,
  641941583266937073993384096949579786077181202753007188175616737624378825839822774433158625991652582112159952351637294542381513224270991422159456581221,
  1078340178459530673664865617878412431891763722146375831899435910584962772183554591631176251059019020189749655642900857758513539668793048056146495227220,
  1296566218985940131653914873597182083930742293356440558294893385178283784137976016933403646223288894833372554922337883534249111441602008904365583250499,
  1078287316797144504239904387466120049405680322227079967054215471505484691158680719838776496859095751097590580302033813667778866687990311190820027503683,
  1296513357323553962228953643226205699494049430871648732479823773895268092899742804521794553554907169404920824936825264771904837668069432784354323538738,
  860167623793346531982433352709665436165550311397575917005759651150444960499312662428203327640796098963926220805278617391319137182095932349760911131988,
  1078393664319755989983312665831505337453758290990421210479536724498988881474269446817049130979573450743757434715460912797366848261963433369580514456643,
  1296566218985940131653914691760310166335126750186667562433474401328901543079365560497877136088811073565162268325202932458902263146246541526528151672133,
  1296566218985940131642084634399072322918003770812925863315561461293584217066825154945734109990413752839785665210807104368685737165167459834700217271348,
  1078340178459530673664865436000224516246757641542108129277625037387239183430321005480753254995371551852070152534595589085426411473328416302292279907653,
  1078287316797144504239904206378100596455268270057523531073737153399178053104125124871450732445591976568858641134903330655480272786620782360017302205765,
  1296513357323553962228953462138186246543637378702092296499345455788719569802454025514876766296533389477140673694411804398449235390150149733021487810134,
  1296513357323553962228950584517655812963509853549472933509897277142682107324744106373219100170514769042615167883351502886606314947830214656872198452276,
  1296513357323553962217120527156417969546386874175740530491775862595785109876421310403895293051946011977783086594721643478361619911242313602928575001379,
  1078287316797144504239901328757570162875140744904904204679790758725701967078206040362445200902106947762245659663709329517390325107987619969138528822324,
  1078393664319755989983312485360643605366117391748629456607741577709666022113612255354267561127517058540813018683882333893824143747678189676254394209878,
  1078393664319755989983312485360643563665618550307496622790182757945379880058601204539927905330388592742020436348320989368090858750230297284735968560453,
  860167623793346531982433172238803704077912035879985211112365002797589967813916661740318790005779061632931595043796476405478546511982285004615047337558,
  1078393664319755989971476672758345020382641158819465477700836652842064073094523210271430900672589967776918606748419722182508910025488397887965834331188,
  860167623793346531970603114877565860660789056506252808094243724020057929018817573657335159718685901711609950509196427307374358363023580085828020753733,
  860114137933121215663991878119445398717809653096427609430734006447948626748573407962030277600080156697409100884418630382537430960011804023841725171286,
  860061276270735046239027770876791087046691597900365778154748153396291936846788248536891643176596373102325988780455751260120888397035486620038550795589,
  641941583266937073993383916478718053989542927235416482282258755919339738946712789837376356731525749304203001826538420149762451606284719896816116909654,
  1104718965294266454886106513883549389183927465352198974646579256238150588575768508805603911521771633534703293843360191757568370823117800243517932581409,
  1104718965294266454874276456522311545766804485978457275528666316202833262563228102818844054208380254307778446009621805713162549789433609014244757684754,
  886492924767856996897057258123463739095558356707639541490729892296488228926723954218377559393742777746932310783981358258436658431028822960365921059106,
  886492913284887464331029622295230471834429537916746802065684759167502266872738247723610363663260337842180585418267581668572388490097514055386282611779,
  1104718953811296922320078878055316121922798646561306235221534123109164626521782802770853121479847388978528618694384564377345711369711552803696526181170,
  1104718953811296922320078697543138394248395220924191178711112132822926125820476496889666274436581508729059380988231273172137056993048566300307201811508,
  1104718953811296922308248640181900550831272241550449479593199192787608799807936091337523248338184188003682777873835445081920531011969484608479267410723,
  886492913284887464331029441783052744160026112279631745555262768881263766171431941872542393343141987015967265197623929798661205320130441076071330047028,
  886492938537300670059420013708468874676258586216315523099879426695373726785696348747381857808908869293894409144354944385146759807116595555471614755634,
  886492938537300670059420013708468874667200120476230187596545658169668070907860968719080998250864188132299612833870821725428219591098000788674153043011,
  668266898010891212058540700586628931206011292280521131086984352670851386589327382195551875624765353680780644780130936509176334514276787462540397663299,
  886492938537300670047589595322875575939307862848924309253781060320877290690156761070078334706434443640379582423747543121263123500153425750287425229603,
  668266898010891212046710643225391087788888312906779431969071412635534060576786976643514576408052008961593049525446083061648680189090725593394038793268,
  668266884241447538896178306025979250956000982565904591492011261793031578377296838907668508986637945805410746368810132593067361029981872738499843871283,
  668266872758478006330150489685568256029527203877982131059877906903512771499840206994546180979746376557620502723135752613857421541235854330883899482948,
  450040857484481754069491444826543281117642183635961697931134988729189026940282827178638209345461660298564101856172347384458209683870882495846957802308,
  886433833276218481190111220511403372961834615038065442099794237866573813243430151991527696223157284853839389251329641761130548934494803234609733702723,
  1104659873802627939179160476271489023050203723682634207525402540256357214984492236674545752918968703161169633886121092865256519914573924828144029737778,
  886433833276218481190111209317350151446027413139570495963403994121593545450910843842318526061405162249238014221332912631930329360604091689690810492244,
  1104659873802627939179160465118751799583787059218633968141060486500410354834507320691035109616996937109789505894915712027460725429622174151852499940965,
  668207792749809023189231918715311394780768395333132538492109244652141080396035512714969651826294239406591104532730153371676292393903265487978773030228,
  449987995822107259846440934196247113816463491360030162379418900446301345555760127795344681023668592596417506283685388034507719268480883348514494756453,
  886440076874926175836369503078172707375079893940393319817922276860364253881662962896327787165244329946472169208091176416760130564103893588870771651651,
  886440076874926175836369503078172707366021428200307984314588508334658598003827582868026927607199648784877372897607053757041590348085298822073309939028,
  668214036348516717835490189956332763904832600004598927805027202835841913685293996344497804981100814333358404843867168540789705271264085495939554559316,
  1104659873802627939179157248993667092563489147023084406997839712616075200759800411588755232389181641038965509653501205886359425053276430517104075355188,
  1104659873802627939167327191632429249146366167649352003979718298069178203311477615619431425270612883974133428364871346478114730016688529463160451904291,
  886433833276218481190107993233581442475120038378515678167733194199095060513262345577981333120773819758596001433859032517143435213433835829370405725236,
  886440076874926175836366625498958266929874162844041472898213590288222526163364307888912988753041329049257519510454509069405806894545099635356621686085,
  668214036348516717835487312377118328374095621496584619495530353517603030444160612673480815650958941729250181794741537726244724598965216198231045068374,
  886440076874926175824536207113364973107392192064997093762118586656049263109207601130720766830772619343204633410197850346308011583546293766282536109108,
  668214036348516717823657255015880484956972642122852216477408938970706032995837816704157008532390184664418100511896390286693568272483593609389149672773,
  668207792749809023189229041136096959250031416825118266778114179306462625037897931582331887185176767259054271835713818438471630812011614111639291573573,
  449987995822107259846438056617032678285726512852015890665423835100622890197622546662706916382551120448880673586669053101303057686589231972175013299798,
  872161407026883349865864755963086689724789682694392075349208555482652238303231590999955787199760187114340915823197614550334666625800467308816855348018,
  872161407026883349865864755963086648024252980787597015396271035084970429996689769674627722245690868570144986026664840141073216253639091123001586041923,
  653935366500473891864985442841246788436621776182203091908050563253805887783589213414868925351303108654405601288833195966258269463382873790142779442243,
  641947852016450869118030749820245534077789342376611236916566840972584427145498619201695983870434957661147328976956937631834297971859785112960646796628,
  860173892542860327118910062942085435365997321969456530390343914321128348120455403590541787209212309440978542887139233037882009051727286132780250121283,
  860173892542860327118910062942085432894310845190199790773069355129339631988736292164403286551502378601950066291605457942597525145706824736181133338213,
  860173892542860327118910062942085391193812003749066956955510535365053489933725241350063630754373912803157483956044113416864240148258932344662707688788,
  641947852016450869118030749820245531606105489321555545277692780217263577689040698550454515429764381694068642651519600454251927910010920064541786465893,
  668320383871139741978025858594969387650601083839261280210939147142190121353554916019791068784050400466246774089425724366529523755214302754795952489539,
  668320383871139741978025858594969387641542618099175944707605378616484465475719535991490209226005719304651977778941601706810983539195707987998490776916,
  450094343344730283977146545473129444180353789903466888198044073117667781157185949467961086599906884853133009725201716490559098462374494661864735397204,
  668320383871139741978025858594969341035633499019901255711071629462523472803892521040025094220894025074965446911553189408040420701873630798077662352724,
  450094343344730283977146545473129402479854957672444402308388392691903977084688825824592921118811637754958109195840223257255425103635640229041958905445,
  435709325974064433864106129719406849891590027510227685954381024094083724937547228460024803542633637608538919923043374840999772539949233822036339742036,
  423721811490041411117151436698405593070167435641560219188144044439247724218761535088602690209950210573618010478532758843539494310421805795997008619109,
  231868302818320825976267232351289542892148452347115638794780836486399652927626301543968503712240650883493724894822840794578718948551942351983394252389,
  872161407026883349854028582419064650445519775260842243331658701802322106775987143454243241466462759005766780416535949964596572490358547391800036049699,
  653935366500473891853155045609444495912841764539930017269642667510836648992509479605260316467675099389784537664811063836205790365390431522237129704500,
  860173892542860327107073889398063393624097183392174776565421722147357604628249446061787865997456090478226626073888074715691148044150912149498618008628,
  641947852016450869106200331517284233902245081078962106958828793325351460552543809447692125043552024412917969834664779840556596381686094347360804431173,
  668320383871139741966189685050947343446078200097730196172058514194768047976535302959467653915173287202665762579440260400609794983376364611904054055988,
  450094343344730283965310732953462855295658650155585318887348866509424817863165518532903895616790852523879229681138800340995351672313664455010667619653,
  435709325974064433852276072358169006474467048136495282936259745316552160426845656424283355083979049279076850242010161621338976749273511846006289159493,
  423721811490041411105321379337167749653044456267827816170022765661716159708059963052861241751295622244155940797499545623878698519746083819966958036566,
  231868302818320825964437174990051699475025472973383235776659557708868088416924729508227055253586062554031655213789627574917923157876220375953343669846,
  653875623370889996097385751776516454572812078118435294998921743945098037860273659740264562825706183673505118369878198068357166672910866774582140088883,
  653822761660509984650780415266894703901816204085066282177840580660477557831350542590337184512316546396067453081244882814257014479607521717028176208708,
  435703068752178553615451650533429136713222995199071859599724915072387894145470560448829370633535914027581816003974502794790568609677294345495930745668,
  423718675972047515656611964271101854527623487891875678658607555990882492143843355602442005010791143335405226234169986817127038122112336702731809346645,
  641891230641557622885511727364105678446733097154130602232159392997072277718535346610839344803657054699497684828828224481381345696335681744223904023364,
  641888097406711757663112925939328919413780444341502311850153112569369248151598372389258742757734383922650154869687512812961195862730862210354412602726,
  641835235744325588238148818696674607742662389145440480574167259517712558249813212964120108334250600327567042765724633690544653299754544806551238227029,
  423715542740527615992504964298601574685513718480491184701677862040760360349737754264604821889179976529444055811807302580186216509003778083328804341094,
  450040843715038080895304748062568137328271937563527654233137189155999310963945066762593530309626780855794049287903226849087568963875816160202916709188,
  450040832232068548329276931722157142401798158875605193801003834266480504086488434849471202302735211608003805642228846869877629475129797752586972320853,
  231814816958072296068617886863132167489913138633584760672260916092156759526931055033563230668450495348947404775265441640478417617764825917550030640213,
  449981752223399565188355483172685887322801204053773074913185392940787597523567005865286415900855865256906704728949013599779382033017786607160275514453,
  231761955295697801845564498653621606358496300080670698800495048734947862683291620945661445098230218446733106479904248262610808907595404467695997240678,
  217483285447654975875056873959321199803220918865658957124274777215834444639138388651565494976025344782027033560145795305550445881547503663543037019221,
  205495770963631953128102180938319942981798326996991490358037797560998443920352695280143381643341917747106124115635179308090167652020075637503705896294,
  13642262291911367987217976591203892803779343702546909964674589608150372629217461735509195145632358056981838531925261259129392290150212193490091529574]
def nbT : Nat → List (List Nat)
  | 2 => nbT2
  | 3 => nbT3
  | 4 => nbT4
  | _ => nbT5
def dT : Nat → List Nat
  | 2 => dT2
  | 3 => dT3
  | 4 => dT4
  | _ => dT5
/-- how far -/
def dAt (D x : Nat) : Nat := (D >>> (4 * x)) % 16
def nbOk (s : Nat) : Bool := ((allR s).map (nbR s)) == ((nbT s).map fun ns => ns.map fun j => (allR s).getD j [])
def symOk (s : Nat) : Bool := ((nbT s).zipIdx).all fun q => q.1.all fun y => decide (y < (allR s).length) && ((nbT s).getD y []).contains q.2
def dOk1 (s N D i : Nat) : Bool := Nat.beq (dAt D i) 0 && (((nbT s).zipIdx).all fun q => (Nat.beq q.2 i || Nat.blt 0 (dAt D q.2)) && (Nat.blt (dAt D q.2) 9 && ((q.1.all fun y => Nat.ble (dAt D y) (dAt D q.2 + 1)) && (Nat.beq (dAt D q.2) 0 || q.1.any fun y => Nat.beq (dAt D y + 1) (dAt D q.2))))) &&
  ((List.range 9).all fun j => Nat.ble ((List.range N).filter fun x => Nat.beq (dAt D x) j).length 50)
def dOk (s : Nat) (l : List (Nat × Nat)) : Bool := l.all fun q => dOk1 s (allR s).length q.1 q.2
theorem nbOk2 : nbOk 2 = true := by decide +kernel
theorem symOk2 : symOk 2 = true := by decide +kernel
theorem nbOk3 : nbOk 3 = true := by decide +kernel
theorem symOk3 : symOk 3 = true := by decide +kernel
theorem nbOk4 : nbOk 4 = true := by decide +kernel
theorem symOk4 : symOk 4 = true := by decide +kernel
theorem nbOk5 : nbOk 5 = true := by decide +kernel
theorem symOk5 : symOk 5 = true := by decide +kernel
theorem dOk2 : dOk 2 (dT 2).zipIdx = true := by decide +kernel
theorem dOk3 : dOk 3 (dT 3).zipIdx = true := by decide +kernel
theorem dOk4 : dOk 4 (dT 4).zipIdx = true := by decide +kernel
theorem dOk5_0 : dOk 5 (((dT 5).zipIdx.drop 0).take 25) = true := by decide +kernel
theorem dOk5_1 : dOk 5 (((dT 5).zipIdx.drop 25).take 25) = true := by decide +kernel
theorem dOk5_2 : dOk 5 (((dT 5).zipIdx.drop 50).take 25) = true := by decide +kernel
theorem dOk5_3 : dOk 5 (((dT 5).zipIdx.drop 75).take 25) = true := by decide +kernel
theorem dOk5_4 : dOk 5 (((dT 5).zipIdx.drop 100).take 25) = true := by decide +kernel
theorem dOk5 : dOk 5 (dT 5).zipIdx = true := by
  have e : (dT 5).zipIdx = ((dT 5).zipIdx.drop 0).take 25 ++ (((dT 5).zipIdx.drop 25).take 25 ++ (((dT 5).zipIdx.drop 50).take 25 ++ (((dT 5).zipIdx.drop 75).take 25 ++ ((dT 5).zipIdx.drop 100).take 25))) := by decide +kernel
  rw [e]
  unfold dOk
  rw [List.all_append, List.all_append, List.all_append, List.all_append]
  have h0 := dOk5_0
  have h1 := dOk5_1
  have h2 := dOk5_2
  have h3 := dOk5_3
  have h4 := dOk5_4
  unfold dOk at h0 h1 h2 h3 h4
  rw [h0, h1, h2, h3, h4]
  rfl
theorem tabLen : ∀ s : Nat, 2 ≤ s ∧ s ≤ 5 → (dT s).length = (allR s).length ∧ (nbT s).length = (allR s).length ∧ (allR s).length ≤ 125 := fun s hs => by
  have : s = 2 ∨ s = 3 ∨ s = 4 ∨ s = 5 := by omega
  rcases this with rfl | rfl | rfl | rfl <;> decide +kernel
end Rx

set_option Elab.async false
set_option linter.all false
set_option maxRecDepth 100000
set_option autoImplicit false
namespace Rx
open PySem
/-! ### how far -/
structure Dst {α : Type} (U : List α) (nb : α → List α) (r : α) (d : α → Nat) : Prop where
  at_ : r ∈ U
  zero : d r = 0
  one : ∀ x ∈ U, d x = 0 → x = r
  near : ∀ x ∈ U, ∀ y ∈ nb x, y ∈ U ∧ d y ≤ d x + 1
  back : ∀ x ∈ U, ∀ t, d x = t + 1 → ∃ z ∈ U, d z = t ∧ x ∈ nb z
  few : ∀ x ∈ U, d x < 9
  lev : ∀ j (l : List α), l.Nodup → (∀ x ∈ l, x ∈ U ∧ d x = j) → l.length ≤ 50
theorem nd_len {α : Type} : ∀ (l m : List α), l.Nodup → (∀ x ∈ l, x ∈ m) → l.length ≤ m.length
  | [], m, _, _ => Nat.zero_le _
  | x :: l, m, nd, h => by
    obtain ⟨n1, n2⟩ := List.nodup_cons.mp nd
    obtain ⟨a, b, e⟩ := List.append_of_mem (h x List.mem_cons_self)
    subst e
    have := nd_len l (a ++ b) n2 fun y hy => by
      rcases List.mem_append.mp (h y (List.mem_cons_of_mem _ hy)) with z | z
      · exact List.mem_append_left _ z
      · rcases List.mem_cons.mp z with z | z
        · subst z; exact absurd hy n1
        · exact List.mem_append_right _ z
    rw [List.length_append] at this
    rw [List.length_cons, List.length_append, List.length_cons]
    omega
theorem idx_at {α : Type} [BEq α] [LawfulBEq α] : ∀ (l : List α), l.Nodup → ∀ (a : Nat) (h : a < l.length), l.idxOf l[a] = a
  | [], _, a, h => absurd h (Nat.not_lt_zero _)
  | x :: l, nd, 0, h => by simp
  | x :: l, nd, a + 1, h => by
    obtain ⟨n1, n2⟩ := List.nodup_cons.mp nd
    have hl : a < l.length := by simpa using h
    have ne : (x == l[a]) = false := by
      rw [beq_eq_false_iff_ne]
      intro e
      exact n1 (e ▸ List.getElem_mem hl)
    show (x :: l).idxOf l[a] = a + 1
    rw [List.idxOf_cons, ne]
    show (l.idxOf l[a]) + 1 = a + 1
    rw [idx_at l n2 a hl]
theorem allR_nd : ∀ s : Nat, 2 ≤ s ∧ s ≤ 5 → (allR s).Nodup := fun s hs => by
  have : s = 2 ∨ s = 3 ∨ s = 4 ∨ s = 5 := by omega
  rcases this with rfl | rfl | rfl | rfl <;> decide +kernel
theorem tabs : ∀ s : Nat, 2 ≤ s ∧ s ≤ 5 → nbOk s = true ∧ symOk s = true ∧ dOk s (dT s).zipIdx = true := fun s hs => by
  have : s = 2 ∨ s = 3 ∨ s = 4 ∨ s = 5 := by omega
  rcases this with rfl | rfl | rfl | rfl
  · exact ⟨nbOk2, symOk2, dOk2⟩
  · exact ⟨nbOk3, symOk3, dOk3⟩
  · exact ⟨nbOk4, symOk4, dOk4⟩
  · exact ⟨nbOk5, symOk5, dOk5⟩
theorem zip_mem {α : Type} {l : List α} {a : Nat} (h : a < l.length) : (l[a], a) ∈ l.zipIdx := by
  refine List.mem_of_getElem? (i := a) ?_
  simp [List.getElem?_zipIdx, h]
theorem dst_row {s : Nat} (hs : 2 ≤ s ∧ s ≤ 5) {r : List (Int × Int)} (hr : r ∈ allR s) : ∃ d, Dst (allR s) (nbR s) r d := by
  obtain ⟨l1, l2, l3⟩ := tabLen s hs
  obtain ⟨t1, t2, t3⟩ := tabs s hs
  have nd := allR_nd s hs
  generalize hU : allR s = U at *
  obtain ⟨i, hi, rfl⟩ := List.getElem_of_mem hr
  have hi2 : i < (dT s).length := by omega
  have q := List.all_eq_true.mp t3 ((dT s)[i], i) (zip_mem hi2)
  unfold dOk1 at q
  rw [hU] at q
  generalize (dT s)[i] = D at q
  simp only [Bool.and_eq_true, Nat.beq_eq, List.all_eq_true] at q
  obtain ⟨⟨q1, q2⟩, q3⟩ := q
  -- by places
  have nbA : ∀ a (ha : a < U.length), nbR s U[a] = ((nbT s)[a]'(by omega)).map fun j => U.getD j [] := fun a ha => by
    unfold nbOk at t1
    rw [hU] at t1
    have e := eq_of_beq t1
    have e2 := congrArg (fun l => l[a]?) e
    simp only [List.getElem?_map, List.getElem?_eq_getElem ha, List.getElem?_eq_getElem (show a < (nbT s).length by omega), Option.map_some, Option.some.injEq] at e2
    exact e2
  have sy : ∀ a (ha : a < U.length), ∀ b ∈ (nbT s)[a]'(by omega), ∃ hb : b < U.length, a ∈ (nbT s)[b]'(by omega) := fun a ha b hb => by
    unfold symOk at t2
    rw [hU] at t2
    have z := List.all_eq_true.mp (List.all_eq_true.mp t2 ((nbT s)[a]'(by omega), a) (zip_mem (by omega))) b hb
    rw [Bool.and_eq_true, decide_eq_true_eq] at z
    refine ⟨z.1, ?_⟩
    have z2 := z.2
    rw [List.getD_eq_getElem?_getD, List.getElem?_eq_getElem (show b < (nbT s).length by omega)] at z2
    exact List.contains_iff_mem.mp z2
  have gD : ∀ b (hb : b < U.length), U.getD b [] = U[b] := fun b hb => by
    rw [List.getD_eq_getElem?_getD, List.getElem?_eq_getElem hb]; rfl
  have row : ∀ a (ha : a < U.length), (a = i ∨ 0 < dAt D a) ∧ dAt D a < 9 ∧ (∀ y ∈ (nbT s)[a]'(by omega), dAt D y ≤ dAt D a + 1) ∧ (dAt D a = 0 ∨ ∃ y ∈ (nbT s)[a]'(by omega), dAt D y + 1 = dAt D a) := fun a ha => by
    have z := q2 ((nbT s)[a]'(by omega), a) (zip_mem (by omega))
    simp only [Bool.or_eq_true, Nat.beq_eq, Nat.blt_eq, Nat.ble_eq, List.any_eq_true] at z
    obtain ⟨z1, z2, z3, z4⟩ := z
    exact ⟨z1, z2, z3, z4⟩
  have ix : ∀ a (ha : a < U.length), U.idxOf U[a] = a := fun a ha => idx_at U nd a ha
  have at' : ∀ x ∈ U, ∃ a, ∃ ha : a < U.length, x = U[a] := fun x hx => by
    obtain ⟨a, ha, e⟩ := List.getElem_of_mem hx
    exact ⟨a, ha, e.symm⟩
  refine ⟨fun x => dAt D (U.idxOf x), hr, ?_, fun x hx h0 => ?_, fun x hx y hy => ?_, fun x hx t ht => ?_, fun x hx => ?_, fun j l hl hm => ?_⟩
  · show dAt D (U.idxOf U[i]) = 0
    rw [ix i hi]; exact q1
  · obtain ⟨a, ha, rfl⟩ := at' x hx
    simp only [ix a ha] at h0
    rcases (row a ha).1 with e | e
    · subst e; rfl
    · omega
  · obtain ⟨a, ha, rfl⟩ := at' x hx
    rw [nbA a ha] at hy
    obtain ⟨b, hb, rfl⟩ := List.mem_map.mp hy
    obtain ⟨hbl, _⟩ := sy a ha b hb
    rw [gD b hbl]
    refine ⟨List.getElem_mem hbl, ?_⟩
    simp only [ix a ha, ix b hbl]
    exact (row a ha).2.2.1 b hb
  · obtain ⟨a, ha, rfl⟩ := at' x hx
    simp only [ix a ha] at ht
    rcases (row a ha).2.2.2 with e | ⟨b, hb, e⟩
    · omega
    · obtain ⟨hbl, hab⟩ := sy a ha b hb
      refine ⟨U[b], List.getElem_mem hbl, ?_, ?_⟩
      · simp only [ix b hbl]; omega
      · rw [nbA b hbl]
        exact List.mem_map.mpr ⟨a, hab, gD a ha⟩
  · obtain ⟨a, ha, rfl⟩ := at' x hx
    simp only [ix a ha]
    exact (row a ha).2.1
  · cases l with
    | nil => exact Nat.zero_le _
    | cons x0 l0 =>
      have hj : j < 9 := by
        obtain ⟨m1, m2⟩ := hm x0 List.mem_cons_self
        obtain ⟨a, ha, rfl⟩ := at' x0 m1
        simp only [ix a ha] at m2
        have := (row a ha).2.1
        omega
      have z := q3 j (List.mem_range.mpr hj)
      rw [Nat.ble_eq] at z
      generalize x0 :: l0 = l at hl hm
      have e : (l.map fun x => U.idxOf x).length ≤ ((List.range U.length).filter fun x => Nat.beq (dAt D x) j).length := by
        refine nd_len _ _ ?_ fun b hb => ?_
        · rw [List.Nodup, List.pairwise_map]
          refine hl.imp_of_mem fun {x y} hx hy ne e => ne ?_
          obtain ⟨a, ha, rfl⟩ := at' x (hm x hx).1
          obtain ⟨b, hb, rfl⟩ := at' y (hm y hy).1
          rw [ix a ha, ix b hb] at e
          subst e; rfl
        · obtain ⟨x, hx, rfl⟩ := List.mem_map.mp hb
          obtain ⟨m1, m2⟩ := hm x hx
          obtain ⟨a, ha, rfl⟩ := at' x m1
          simp only [ix a ha] at m2 ⊢
          rw [List.mem_filter, List.mem_range]
          exact ⟨ha, by rw [Nat.beq_eq]; exact m2⟩
      rw [List.length_map] at e
      omega
end Rx

set_option Elab.async false
set_option linter.all false
set_option maxRecDepth 100000
set_option autoImplicit false
namespace Rx
open PySem
/-! ### a search, nearest first -/
section
variable {α : Type} [DecidableEq α]
def keysK (K : List (α × Option α)) : List α := K.map (·.1)
def hasK (K : List (α × Option α)) (y : α) : Bool := decide (y ∈ keysK K)
theorem hasK_yes {K : List (α × Option α)} {y : α} (h : y ∈ keysK K) : hasK K y = true := decide_eq_true h
theorem hasK_no {K : List (α × Option α)} {y : α} (h : y ∉ keysK K) : hasK K y = false := decide_eq_false h
def visit (p : α) (st : List (α × Option α) × List α) (y : α) : List (α × Option α) × List α := if hasK st.1 y = true then st else (st.1 ++ [(y, some p)], st.2 ++ [y])
theorem keysK_app (K : List (α × Option α)) (p : α) (N : List α) : keysK (K ++ N.map fun y => (y, some p)) = keysK K ++ N := by
  unfold keysK
  rw [List.map_append, List.map_map]
  congr 1
  exact List.map_id' N
theorem visits (p : α) : ∀ (ys : List α) (K : List (α × Option α)) (q : List α), ∃ N : List α, ys.foldl (visit p) (K, q) = (K ++ N.map (fun y => (y, some p)), q ++ N) ∧ (∀ y ∈ N, y ∈ ys ∧ y ∉ keysK K) ∧ N.Nodup ∧ ∀ y ∈ ys, y ∈ keysK K ∨ y ∈ N
  | [], K, q => ⟨[], by simp, fun y hy => (by cases hy), List.nodup_nil, fun y hy => (by cases hy)⟩
  | y :: ys, K, q => by
    rw [List.foldl_cons]
    by_cases hk : y ∈ keysK K
    · have e : visit p (K, q) y = (K, q) := by unfold visit hasK; rw [if_pos (decide_eq_true hk)]
      rw [e]
      obtain ⟨N, e1, e2, e3, e4⟩ := visits p ys K q
      refine ⟨N, e1, fun z hz => ⟨List.mem_cons_of_mem _ (e2 z hz).1, (e2 z hz).2⟩, e3, fun z hz => ?_⟩
      rcases List.mem_cons.mp hz with h | h
      · rw [h]; exact .inl hk
      · exact e4 z h
    · have e : visit p (K, q) y = (K ++ [(y, some p)], q ++ [y]) := by unfold visit hasK; rw [if_neg (by simpa using hk)]
      rw [e]
      obtain ⟨N, e1, e2, e3, e4⟩ := visits p ys (K ++ [(y, some p)]) (q ++ [y])
      have ek : keysK (K ++ [(y, some p)]) = keysK K ++ [y] := keysK_app K p [y]
      rw [ek] at e2 e4
      refine ⟨y :: N, ?_, fun z hz => ?_, List.nodup_cons.mpr ⟨fun z => ?_, e3⟩, fun z hz => ?_⟩
      · rw [e1]; simp
      · rcases List.mem_cons.mp hz with h | h
        · rw [h]; exact ⟨List.mem_cons_self, hk⟩
        · exact ⟨List.mem_cons_of_mem _ (e2 z h).1, fun w => (e2 z h).2 (List.mem_append_left _ w)⟩
      · exact (e2 y z).2 (List.mem_append_right _ List.mem_cons_self)
      · rcases List.mem_cons.mp hz with h | h
        · rw [h]; exact .inr List.mem_cons_self
        · rcases e4 z h with w | w
          · rcases List.mem_append.mp w with w | w
            · exact .inl w
            · rw [List.mem_singleton.mp w]; exact .inr List.mem_cons_self
          · exact .inr (List.mem_cons_of_mem _ w)
structure BInv (U : List α) (nb : α → List α) (r : α) (d : α → Nat) (K : List (α × Option α)) (Q : List α) : Prop where
  nd : (keysK K).Nodup
  sub : ∀ x ∈ keysK K, x ∈ U
  par : ∀ e ∈ K, (e.2 = none ∧ e.1 = r) ∨ ∃ p, e.2 = some p ∧ p ∈ keysK K ∧ e.1 ∈ nb p ∧ d e.1 = d p + 1
  root : (r, none) ∈ K
  qs : ∀ x ∈ Q, x ∈ keysK K
  srt : Q.Pairwise fun a b => d a ≤ d b
  win : ∀ a, Q.head? = some a → ∀ b ∈ Q, d b ≤ d a + 1
  low : ∀ h, Q.head? = some h → ∀ x ∈ U, d x ≤ d h → x ∈ keysK K
  done : ∀ x ∈ keysK K, x ∉ Q → ∀ y ∈ nb x, y ∈ keysK K
variable {U : List α} {nb : α → List α} {r : α} {d : α → Nat}
theorem BInv.init (D : Dst U nb r d) : BInv U nb r d [(r, none)] [r] where
  nd := by simp [keysK]
  sub := fun x hx => by
    have : x = r := by simpa [keysK] using hx
    rw [this]; exact D.at_
  par := fun e he => by rw [List.mem_singleton.mp he]; exact .inl ⟨rfl, rfl⟩
  root := List.mem_cons_self
  qs := fun x hx => by simpa [keysK] using hx
  srt := List.pairwise_singleton _ _
  win := fun a ha b hb => by
    cases ha
    rw [List.mem_singleton.mp hb]
    omega
  low := fun h hh x hx hd => by
    cases hh
    rw [D.zero] at hd
    rw [D.one x hx (by omega)]
    simp [keysK]
  done := fun x hx hq => absurd (by simpa [keysK] using hx) hq
theorem BInv.step (D : Dst U nb r d) {K : List (α × Option α)} {p : α} {q : List α} (B : BInv U nb r d K (p :: q)) :
    BInv U nb r d ((nb p).foldl (visit p) (K, q)).1 ((nb p).foldl (visit p) (K, q)).2 := by
  obtain ⟨N, e, n1, n2, n3⟩ := visits p (nb p) K q
  rw [e]
  simp only
  have hpk := B.qs p List.mem_cons_self
  have hpU := B.sub p hpk
  have dN : ∀ y ∈ N, y ∈ U ∧ d y = d p + 1 := fun y hy => by
    obtain ⟨a, b⟩ := n1 y hy
    obtain ⟨c1, c2⟩ := D.near p hpU y a
    refine ⟨c1, ?_⟩
    have : ¬ d y ≤ d p := fun z => b (B.low p rfl y c1 z)
    omega
  have ek := keysK_app K p N
  obtain ⟨s1, s2⟩ := List.pairwise_cons.mp B.srt
  have dq : ∀ a ∈ q, d p ≤ d a ∧ d a ≤ d p + 1 := fun a ha => ⟨s1 a ha, B.win p rfl a (List.mem_cons_of_mem _ ha)⟩
  have dQ : ∀ a ∈ q ++ N, d p ≤ d a ∧ d a ≤ d p + 1 := fun a ha => by
    rcases List.mem_append.mp ha with h | h
    · exact dq a h
    · have := (dN a h).2; omega
  refine ⟨?_, fun x hx => ?_, fun e he => ?_, List.mem_append_left _ B.root, fun x hx => ?_, ?_, fun a ha b hb => ?_, fun h hh x hx hd => ?_, fun x hx hq y hy => ?_⟩
  · rw [ek, List.nodup_append]
    exact ⟨B.nd, n2, fun a ha b hb e => (n1 b hb).2 (e ▸ ha)⟩
  · rw [ek] at hx
    rcases List.mem_append.mp hx with h | h
    · exact B.sub x h
    · exact (dN x h).1
  · rw [ek]
    rcases List.mem_append.mp he with h | h
    · rcases B.par e h with z | ⟨p', z1, z2, z3, z4⟩
      · exact .inl z
      · exact .inr ⟨p', z1, List.mem_append_left _ z2, z3, z4⟩
    · obtain ⟨y, hy, rfl⟩ := List.mem_map.mp h
      exact .inr ⟨p, rfl, List.mem_append_left _ hpk, (n1 y hy).1, (dN y hy).2⟩
  · rw [ek]
    rcases List.mem_append.mp hx with h | h
    · exact List.mem_append_left _ (B.qs x (List.mem_cons_of_mem _ h))
    · exact List.mem_append_right _ h
  · rw [List.pairwise_append]
    refine ⟨s2, ?_, fun a ha b hb => ?_⟩
    · refine List.Pairwise.imp_of_mem (R := fun _ _ => True) (fun {a b} ha hb _ => ?_) (List.pairwise_of_forall (fun _ _ => trivial))
      rw [(dN a ha).2, (dN b hb).2]
      exact Nat.le_refl _
    · have := dq a ha
      have := (dN b hb).2
      omega
  · have h1 := dQ a (List.mem_of_mem_head? ha)
    have h2 := dQ b hb
    omega
  · rw [ek]
    have h1 := dQ h (List.mem_of_mem_head? hh)
    by_cases hx1 : d x ≤ d p
    · exact List.mem_append_left _ (B.low p rfl x hx hx1)
    · have hx2 : d x = d p + 1 := by omega
      have hh2 : d h = d p + 1 := by omega
      obtain ⟨z, zU, zd, zn⟩ := D.back x hx (d p) hx2
      have zk := B.low p rfl z zU (by omega)
      by_cases zp : z = p
      · subst zp
        rcases n3 x zn with w | w
        · exact List.mem_append_left _ w
        · exact List.mem_append_right _ w
      · have zq : z ∉ q := fun w => by
          cases q with
          | nil => cases w
          | cons a q1 =>
            cases hh
            obtain ⟨t1, _⟩ := List.pairwise_cons.mp s2
            rcases List.mem_cons.mp w with w | w
            · rw [w] at zd; omega
            · have := t1 z w; omega
        refine List.mem_append_left _ (B.done z zk (fun w => ?_) x zn)
        rcases List.mem_cons.mp w with w | w
        · exact zp w
        · exact zq w
  · rw [ek] at hx ⊢
    have hxk : x ∈ keysK K := by
      rcases List.mem_append.mp hx with h | h
      · exact h
      · exact absurd (List.mem_append_right _ h) hq
    by_cases xp : x = p
    · subst xp
      rcases n3 y hy with w | w
      · exact List.mem_append_left _ w
      · exact List.mem_append_right _ w
    · refine List.mem_append_left _ (B.done x hxk (fun w => ?_) y hy)
      rcases List.mem_cons.mp w with w | w
      · exact xp w
      · exact hq (List.mem_append_left _ w)
theorem BInv.all (D : Dst U nb r d) {K : List (α × Option α)} (B : BInv U nb r d K []) : ∀ (t : Nat) (x : α), x ∈ U → d x = t → x ∈ keysK K
  | 0, x, hx, h => by
    rw [D.one x hx h]
    exact List.mem_map.mpr ⟨_, B.root, rfl⟩
  | t + 1, x, hx, h => by
    obtain ⟨z, zU, zd, zn⟩ := D.back x hx t h
    exact B.done z (B.all D t z zU zd) (fun w => by cases w) x zn
theorem BInv.len {K : List (α × Option α)} {Q : List α} (B : BInv U nb r d K Q) : K.length ≤ U.length := by
  have := nd_len (keysK K) U B.nd B.sub
  unfold keysK at this
  rwa [List.length_map] at this
/-- back along the way -/
inductive Way (K : List (α × Option α)) (r : α) : α → List α → Prop
  | root : (r, none) ∈ K → Way K r r [r]
  | step {x p : α} {P : List α} : (x, some p) ∈ K → Way K r p P → Way K r x (x :: P)
theorem BInv.way (D : Dst U nb r d) {K : List (α × Option α)} {Q : List α} (B : BInv U nb r d K Q) : ∀ (t : Nat) (x : α), x ∈ keysK K → d x = t → ∃ P, Way K r x P ∧ P.length = t + 1
  | t, x, hx, h => by
    obtain ⟨e, he, rfl⟩ := List.mem_map.mp hx
    obtain ⟨x, o⟩ := e
    rcases B.par (x, o) he with ⟨z1, z2⟩ | ⟨p, z1, z2, z3, z4⟩
    · simp only at z1 z2 h
      subst z1 z2
      rw [D.zero] at h
      subst h
      exact ⟨[x], .root he, rfl⟩
    · simp only at z1 z2 z3 z4 h
      subst z1
      cases t with
      | zero => omega
      | succ t =>
        obtain ⟨P, w, l⟩ := B.way D t p z2 (by omega)
        exact ⟨x :: P, .step he w, by rw [List.length_cons, l]⟩
theorem find_key {K : List (α × Option α)} (nd : (keysK K).Nodup) {x : α} {o : Option α} (h : (x, o) ∈ K) : (K.find? fun e => decide (e.1 = x)) = some (x, o) := by
  induction K with
  | nil => cases h
  | cons e K ih =>
    obtain ⟨n1, n2⟩ := List.nodup_cons.mp (show (e.1 :: keysK K).Nodup from nd)
    rcases List.mem_cons.mp h with z | z
    · subst z; simp
    · rw [List.find?_cons_of_neg, ih n2 z]
      intro w
      exact n1 (by rw [of_decide_eq_true w]; exact List.mem_map.mpr ⟨_, z, rfl⟩)
end
end Rx

set_option Elab.async false
set_option linter.all false
set_option maxRecDepth 100000
set_option autoImplicit false
namespace Rx
open PySem
/-! ### road -/
abbrev Rw := List (Int × Int)
def oDr : Option Rw → D
  | none => .none
  | some p => dR p
def fsK (K : List (Rw × Option Rw)) : Fs := K.map fun e => kvE (dR e.1) (oDr e.2)
theorem eqd_pr60 (p q : Int × Int) : eqd (pr p) (pr q) = decide (p = q) := by
  have : eqd (pr p) (pr q) = ((p.1 == q.1) && ((p.2 == q.2) && true)) := rfl
  rw [this, Bool.and_true, Bool.eq_iff_iff]
  simp [Prod.ext_iff]
theorem eqd_dR60 : ∀ a b : Rw, eqd (dR a) (dR b) = decide (a = b) := fun a b => by
  have key : ∀ a b : Rw, eqdAll (a.map pr) (b.map pr) = decide (a = b) := fun a => by
    induction a with
    | nil => intro b; cases b with
      | nil => rfl
      | cons _ _ => rfl
    | cons p a ih =>
      intro b
      cases b with
      | nil => rfl
      | cons q b =>
        show (eqd (pr p) (pr q) && eqdAll (a.map pr) (b.map pr)) = _
        rw [eqd_pr60, ih, Bool.eq_iff_iff]
        simp
  exact key a b
theorem atD_fsK (y : Rw) : ∀ K : List (Rw × Option Rw), atD (fsK K) (dR y) = (K.find? fun e => decide (e.1 = y)).map fun e => oDr e.2
  | [] => rfl
  | e :: K => by
    have e1 : atD (fsK (e :: K)) (dR y) = if eqd (dR e.1) (dR y) = true then some (oDr e.2) else atD (fsK K) (dR y) := rfl
    rw [e1, eqd_dR60, List.find?_cons, atD_fsK y K]
    cases decide (e.1 = y) <;> rfl
theorem has_find (K : List (Rw × Option Rw)) (y : Rw) : (K.find? fun e => decide (e.1 = y)).isSome = hasK K y := by
  rw [Bool.eq_iff_iff, List.find?_isSome]
  unfold hasK keysK
  simp only [decide_eq_true_eq, List.mem_map]
theorem isO8 (i : Nat) : isO' (dObj i) = some i := by
  show (if (0 : Int) ≤ (i : Int) then some (i : Int).toNat else none) = some i
  rw [if_pos (by omega)]
  rfl
theorem wAt (w0 : Om) (fs : Fs) : (w0 ++ [fs])[w0.length]? = some fs := by
  rw [List.getElem?_append_right (Nat.le_refl _), Nat.sub_self]; rfl
theorem wSet (w0 : Om) (fs fs' : Fs) : (w0 ++ [fs]).set w0.length fs' = w0 ++ [fs'] := by
  rw [List.set_append_right _ _ (Nat.le_refl _), Nat.sub_self]; rfl
theorem rws1 (y : Rw) : rwsOf [dR y] = some [y] := rwsOf_rws [y]
theorem rws2 (y p : Rw) : rwsOf [dR y, dR p] = some [y, p] := rwsOf_rws [y, p]
def rvB : Sx := (sIf (dNinD (dVar 7) (dVar 3)) (sSeq (sSetD 3 (dVar 7) (dVar 5)) (sAppend 4 (dVar 7))) sPass)
def rnB8 : Sx := (sFor (iSeq (dPrim .tup (dCons (dCall 52 (dCons (dVar 5) (dCons (dVar 6) dNil))) (dCons (dCall 53 (dCons (dVar 5) (dCons (dVar 6) dNil))) dNil)))) (.nm 7) rvB)
theorem nin_ev {c : Cf} {r : Env} {w0 : Om} {K : List (Rw × Option Rw)} {y : Rw} {i j : Nat} (hi : r[i]? = some (some (dR y))) (hj : r[j]? = some (some (dObj w0.length))) : dNinD (dVar i) (dVar j) c r (w0 ++ [fsK K]) = some (.val (.bool (!hasK K y)), w0 ++ [fsK K]) := by
  unfold dNinD
  simp only [e_dVar, hi, hj, isO8, wAt, rws1, Option.map_some, atD_fsK, Option.isSome_map, has_find]
theorem rvB_ok {c : Cf} {w0 : Om} (K : List (Rw × Option Rw)) (Q : List Rw) (p y : Rw) (hl : K.length ≤ 800) (hq : Q.length ≤ 1000) (o0 o1 o2 o6 o8 : Option D) :
    rvB c [o0, o1, o2, some (dObj w0.length), some (.list (Q.map dR)), some (dR p), o6, some (dR y), o8] (w0 ++ [fsK K]) = some (.next [o0, o1, o2, some (dObj w0.length), some (.list ((visit p (K, Q) y).2.map dR)), some (dR p), o6, some (dR y), o8], w0 ++ [fsK (visit p (K, Q) y).1]) := by
  have t := nin_ev (c := c) (r := [o0, o1, o2, some (dObj w0.length), some (.list (Q.map dR)), some (dR p), o6, some (dR y), o8]) (w0 := w0) (K := K) (y := y) (i := 7) (j := 3) rfl rfl
  unfold rvB visit
  rw [e_sIf, t]
  cases hk : hasK K y with
  | true => rfl
  | false =>
    simp only [truth_bool, Bool.not_false]
    have ef : (atD (fsK K) (dR y)).isSome = false := by rw [atD_fsK, Option.isSome_map, has_find, hk]
    have lf : (fsK K).length = K.length := by unfold fsK; rw [List.length_map]
    have e1 : fsK K ++ [kvE (dR y) (dR p)] = fsK (K ++ [(y, some p)]) := by unfold fsK; rw [List.map_append]; rfl
    have st : sSetD 3 (dVar 7) (dVar 5) c [o0, o1, o2, some (dObj w0.length), some (.list (Q.map dR)), some (dR p), o6, some (dR y), o8] (w0 ++ [fsK K]) = some (.next [o0, o1, o2, some (dObj w0.length), some (.list (Q.map dR)), some (dR p), o6, some (dR y), o8], w0 ++ [fsK (K ++ [(y, some p)])]) := by
      unfold sSetD
      simp only [e_dVar, List.getElem?_cons_succ, List.getElem?_cons_zero, isO8, wAt, rws2, Option.bind_some, ef, lf, Bool.false_or]
      rw [if_neg (by rw [decide_eq_true_eq]; omega), wSet, e1]
    rw [seq_next st]
    unfold sAppend
    simp only [e_dVar, List.getElem?_cons_succ, List.getElem?_cons_zero]
    rw [if_pos (by
      rw [show plain (dR y) = true from rfl, Bool.true_and, decide_eq_true_eq, List.length_map]
      unfold zL; omega)]
    rw [if_neg (by decide), List.map_append]
    rfl
theorem visit_len (p : Rw) : ∀ (ys : List Rw) (K : List (Rw × Option Rw)) (Q : List Rw), (ys.foldl (visit p) (K, Q)).1.length ≤ K.length + ys.length ∧ (ys.foldl (visit p) (K, Q)).2.length ≤ Q.length + ys.length
  | [], K, Q => ⟨Nat.le_refl _, Nat.le_refl _⟩
  | y :: ys, K, Q => by
    rw [List.foldl_cons, List.length_cons]
    have h : (visit p (K, Q) y).1.length ≤ K.length + 1 ∧ (visit p (K, Q) y).2.length ≤ Q.length + 1 := by
      unfold visit
      split
      · exact ⟨Nat.le_succ _, Nat.le_succ _⟩
      · simp
    have ih := visit_len p ys (visit p (K, Q) y).1 (visit p (K, Q) y).2
    refine ⟨Nat.le_trans ih.1 ?_, Nat.le_trans ih.2 ?_⟩ <;> omega
theorem rv_loop {c : Cf} {w0 : Om} (p : Rw) (o0 o1 o2 o6 o8 : Option D) : ∀ (ys : List Rw) (K : List (Rw × Option Rw)) (Q : List Rw), K.length + ys.length ≤ 800 → Q.length + ys.length ≤ 1000 → ∀ o7 : Option D, ∃ o7', forGo c (.nm 7) rvB (ys.map dR) [o0, o1, o2, some (dObj w0.length), some (.list (Q.map dR)), some (dR p), o6, o7, o8] (w0 ++ [fsK K]) = some (.next [o0, o1, o2, some (dObj w0.length), some (.list ((ys.foldl (visit p) (K, Q)).2.map dR)), some (dR p), o6, o7', o8], w0 ++ [fsK (ys.foldl (visit p) (K, Q)).1])
  | [], K, Q, _, _, o7 => ⟨o7, rfl⟩
  | y :: ys, K, Q, hl, hq, o7 => by
    rw [List.length_cons] at hl hq
    have b := rvB_ok (c := c) (w0 := w0) K Q p y (by omega) (by omega) o0 o1 o2 o6 o8
    have h := visit_len p [y] K Q
    simp only [List.foldl_cons, List.foldl_nil, List.length_cons, List.length_nil] at h
    obtain ⟨o7', e⟩ := rv_loop (c := c) (w0 := w0) p o0 o1 o2 o6 o8 ys (visit p (K, Q) y).1 (visit p (K, Q) y).2 (by omega) (by omega) (some (dR y))
    refine ⟨o7', ?_⟩
    rw [List.map_cons, forGo_cons (r1 := [o0, o1, o2, some (dObj w0.length), some (.list (Q.map dR)), some (dR p), o6, some (dR y), o8]) rfl b, e, List.foldl_cons]
section
variable {T : Tb} {n : Nat}
theorem rn_loop (h : HMv T) {w0 : Om} (p : Rw) (hp : p.length ≤ 100) (o0 o1 o2 o8 : Option D) : ∀ (ks : List Nat), (∀ k ∈ ks, k + 2 ≤ p.length) → ∀ (K : List (Rw × Option Rw)) (Q : List Rw), K.length + 2 * ks.length ≤ 800 → Q.length + 2 * ks.length ≤ 1000 → ∀ o6 o7 : Option D, ∃ o6' o7', forGo (run T (n + 3)) (.nm 6) rnB8 (ks.map fun (k : Nat) => PyData.int (k : Int)) [o0, o1, o2, some (dObj w0.length), some (.list (Q.map dR)), some (dR p), o6, o7, o8] (w0 ++ [fsK K]) = some (.next [o0, o1, o2, some (dObj w0.length), some (.list (((ks.flatMap fun k => [ltr p k, erl p k]).foldl (visit p) (K, Q)).2.map dR)), some (dR p), o6', o7', o8], w0 ++ [fsK ((ks.flatMap fun k => [ltr p k, erl p k]).foldl (visit p) (K, Q)).1])
  | [], _, K, Q, _, _, o6, o7 => ⟨o6, o7, rfl⟩
  | k :: ks, hk, K, Q, hl, hq, o6, o7 => by
    rw [List.length_cons] at hl hq
    have hk0 := hk k List.mem_cons_self
    have l1 := later_R (T := T) (n := n) (w := w0 ++ [fsK K]) h hk0 (by omega)
    have l2 := earlier_R (T := T) (n := n) (w := w0 ++ [fsK K]) h hk0 (by omega)
    have tp : tupP [dR (ltr p k), dR (erl p k)] = some (.tuple ([ltr p k, erl p k].map dR)) := rfl
    obtain ⟨o7', e⟩ := rv_loop (c := run T (n + 3)) (w0 := w0) p o0 o1 o2 (some (.int (k : Nat))) o8 [ltr p k, erl p k] K Q (by simp; omega) (by simp; omega) o7
    have b : rnB8 (run T (n + 3)) [o0, o1, o2, some (dObj w0.length), some (.list (Q.map dR)), some (dR p), some (.int (k : Nat)), o7, o8] (w0 ++ [fsK K]) = _ := (for_of (tg := .nm 7) (body := rvB) (show iSeq (dPrim .tup (dCons (dCall 52 (dCons (dVar 5) (dCons (dVar 6) dNil))) (dCons (dCall 53 (dCons (dVar 5) (dCons (dVar 6) dNil))) dNil))) (run T (n + 3)) [o0, o1, o2, some (dObj w0.length), some (.list (Q.map dR)), some (dR p), some (.int (k : Nat)), o7, o8] (w0 ++ [fsK K]) = some (.vals ([ltr p k, erl p k].map dR), w0 ++ [fsK K]) by
      simp only [e_iSeq, e_dPrim, e_dCons, e_dVar, e_dNil, e_dCall, List.getElem?_cons_succ, List.getElem?_cons_zero, l1, l2, p_tup, tp, Option.map_some]
      rfl)).trans e
    have hv := visit_len p [ltr p k, erl p k] K Q
    simp only [List.length_cons, List.length_nil] at hv
    obtain ⟨p6, p7, e2⟩ := rn_loop h (w0 := w0) p hp o0 o1 o2 o8 ks (fun j hj => hk j (List.mem_cons_of_mem _ hj)) ([ltr p k, erl p k].foldl (visit p) (K, Q)).1 ([ltr p k, erl p k].foldl (visit p) (K, Q)).2 (by omega) (by omega) (some (.int (k : Nat))) o7'
    refine ⟨p6, p7, ?_⟩
    rw [List.map_cons, forGo_cons (r1 := [o0, o1, o2, some (dObj w0.length), some (.list (Q.map dR)), some (dR p), some (.int (k : Nat)), o7, o8]) rfl b, e2, List.flatMap_cons, List.foldl_append]
theorem rng_nat (s : Nat) (hs : 2 ≤ s) : rangeD 0 ((s : Int) - 2) = (List.range (s - 2)).map fun (k : Nat) => PyData.int (k : Int) := by
  unfold rangeD
  rw [show ((s : Int) - 2 - 0).toNat = s - 2 by omega]
  refine List.map_congr_left fun i _ => ?_
  rw [Int.zero_add]
/-- one round of the search -/
def rdB : Sx := (sSeq (sPop0 5 4) (sFor (iRng (dCons (dPrim .sub (dCons (dVar 0) (dCons (dC (.int 2)) dNil))) dNil)) (.nm 6) rnB8))
theorem rdB_ok (h : HMv T) {w0 : Om} {s : Nat} (hs : 2 ≤ s ∧ s ≤ 5) {p : Rw} (hp : p.length + 1 = s) (K : List (Rw × Option Rw)) (q : List Rw) (hl : K.length ≤ 200) (hq : q.length ≤ 200) (o1 o2 o5 o6 o7 o8 : Option D) :
    ∃ o6' o7', rdB (run T (n + 3)) [some (.int (s : Nat)), o1, o2, some (dObj w0.length), some (.list ((p :: q).map dR)), o5, o6, o7, o8] (w0 ++ [fsK K]) = some (.next [some (.int (s : Nat)), o1, o2, some (dObj w0.length), some (.list (((nbR s p).foldl (visit p) (K, q)).2.map dR)), some (dR p), o6', o7', o8], w0 ++ [fsK ((nbR s p).foldl (visit p) (K, q)).1]) := by
  obtain ⟨o6', o7', e⟩ := rn_loop (T := T) (n := n) h (w0 := w0) p (by omega) (some (.int (s : Nat))) o1 o2 o8 (List.range (s - 2)) (fun k hk => by have := List.mem_range.mp hk; omega) K q (by rw [List.length_range]; omega) (by rw [List.length_range]; omega) o6 o7
  refine ⟨o6', o7', ?_⟩
  unfold rdB
  rw [seq_next (r1 := [some (.int (s : Nat)), o1, o2, some (dObj w0.length), some (.list (q.map dR)), some (dR p), o6, o7, o8]) (w1 := w0 ++ [fsK K]) rfl]
  refine (for_of (tg := .nm 6) (body := rnB8) (e_iRng1 _ _ _ _ ((s : Int) - 2) (by
    simp only [e_dPrim, e_dCons, e_dVar, e_dC, e_dNil, List.getElem?_cons_zero, p_sub, subP_int, Option.map_some]) (by unfold inR; simp; omega))).trans ?_
  rw [rng_nat s hs.1]
  exact e
theorem while_end {c : Cf} {t : Ex} {b : Sx} {f : Nat} {r : Env} {w : Om} (h : t c r w = some (.val (.bool false), w)) : whileGo c t b (f + 1) r w = some (.next r, w) := by
  rw [whileGo, h]; rfl
theorem while_go {c : Cf} {t : Ex} {b : Sx} {f : Nat} {r r1 : Env} {w w1 : Om} (h : t c r w = some (.val (.bool true), w)) (hb : b c r w = some (.next r1, w1)) : whileGo c t b (f + 1) r w = whileGo c t b f r1 w1 := by
  rw [whileGo, h]
  simp only [truth_bool, hb]
theorem rd_while (h : HMv T) {w0 : Om} {s : Nat} (hs : 2 ≤ s ∧ s ≤ 5) {r o : Rw} {d : Rw → Nat} (Dd : Dst (allR s) (nbR s) r d) (hU : ∀ x ∈ allR s, x.length + 1 = s) (hUl : (allR s).length ≤ 125) (ho : o ∈ allR s) (o1 o8 : Option D) :
    ∀ (m f : Nat) (K : List (Rw × Option Rw)) (Q : List Rw), BInv (allR s) (nbR s) r d K Q → Q.length ≤ K.length → (allR s).length + Q.length ≤ K.length + m → m < f → ∀ o5 o6 o7 : Option D, ∃ K' Q' o4' o5' o6' o7', BInv (allR s) (nbR s) r d K' Q' ∧ o ∈ keysK K' ∧
      whileGo (run T (n + 3)) (dNinD (dVar 2) (dVar 3)) rdB f [some (.int (s : Nat)), o1, some (dR o), some (dObj w0.length), some (.list (Q.map dR)), o5, o6, o7, o8] (w0 ++ [fsK K]) = some (.next [some (.int (s : Nat)), o1, some (dR o), some (dObj w0.length), o4', o5', o6', o7', o8], w0 ++ [fsK K'])
  | m, 0, _, _, _, _, _, hf, _, _, _ => absurd hf (Nat.not_lt_zero _)
  | m, f + 1, K, Q, B, hQK, hm, hf, o5, o6, o7 => by
    have t := nin_ev (c := run T (n + 3)) (r := [some (.int (s : Nat)), o1, some (dR o), some (dObj w0.length), some (.list (Q.map dR)), o5, o6, o7, o8]) (w0 := w0) (K := K) (y := o) (i := 2) (j := 3) rfl rfl
    by_cases hk : o ∈ keysK K
    · have : hasK K o = true := hasK_yes hk
      rw [this] at t
      exact ⟨K, Q, _, _, _, _, B, hk, while_end t⟩
    · have : hasK K o = false := hasK_no hk
      rw [this] at t
      have hK := B.len
      cases Q with
      | nil => exact absurd (B.all Dd _ o ho rfl) hk
      | cons p q =>
        have hpU := B.sub p (B.qs p List.mem_cons_self)
        rw [List.length_cons] at hQK hm
        obtain ⟨o6', o7', b⟩ := rdB_ok (T := T) (n := n) h (w0 := w0) hs (hU p hpU) K q (by omega) (by omega) o1 (some (dR o)) o5 o6 o7 o8
        obtain ⟨N, e, _⟩ := visits p (nbR s p) K q
        have B' := B.step Dd
        rw [e] at B' b
        simp only at B' b
        cases m with
        | zero => omega
        | succ m =>
          obtain ⟨K', Q', q4, q5, q6, q7, c1, c2, c3⟩ := rd_while h (w0 := w0) hs Dd hU hUl ho o1 o8 m f _ _ B' (by simp; omega) (by simp; omega) (by omega) (some (dR p)) o6' o7'
          exact ⟨K', Q', q4, q5, q6, q7, c1, c2, (while_go t b).trans c3⟩
/-! ### the way back -/
theorem ix_lastR (R : List Rw) (x : Rw) : ixP (.list ((R ++ [x]).map dR)) (.int (-1)) = some (dR x) := by
  show ((ixAt ((R ++ [x]).map dR).length (-1)).bind fun j => ((R ++ [x]).map dR)[j]?) = _
  unfold ixAt
  rw [if_neg (by decide), if_pos (by simp; omega)]
  simp only [Option.bind_some, List.length_map, List.length_append, List.length_singleton]
  rw [show ((-1 : Int) + ((R.length + 1 : Nat) : Int)).toNat = R.length by omega, List.getElem?_map, List.getElem?_append_right (Nat.le_refl _), Nat.sub_self]
  rfl
def lkE : Ex := (dGetD (dVar 3) (dPrim .ix (dCons (dVar 8) (dCons (dPrim .neg (dCons (dC (.int 1)) dNil)) dNil))))
theorem lk_ev {c : Cf} {w0 : Om} {K : List (Rw × Option Rw)} (nd : (keysK K).Nodup) {x : Rw} {o : Option Rw} (h : (x, o) ∈ K) (R : List Rw) (o0 o1 o2 o4 o5 o6 o7 : Option D) :
    lkE c [o0, o1, o2, some (dObj w0.length), o4, o5, o6, o7, some (.list ((R ++ [x]).map dR))] (w0 ++ [fsK K]) = some (.val (oDr o), w0 ++ [fsK K]) := by
  have i := ix_lastR R x
  have ng : negP (.int 1) = some (.int (-1)) := rfl
  have a : atD (fsK K) (dR x) = some (oDr o) := by rw [atD_fsK, find_key nd h]; rfl
  unfold lkE dGetD
  simp only [e_dVar, e_dPrim, e_dCons, e_dC, e_dNil, List.getElem?_cons_succ, List.getElem?_cons_zero, p_neg, ng, Option.map_some, p_ix, i, isO8, wAt, rws1, Option.bind_some, a]
theorem ch_while {c : Cf} {w0 : Om} {K : List (Rw × Option Rw)} (nd : (keysK K).Nodup) {r : Rw} (o0 o1 o2 o4 o5 o6 o7 : Option D) : ∀ {x : Rw} {P : List Rw}, Way K r x P → ∀ (f : Nat) (R : List Rw), P.length < f → R.length + P.length ≤ 1000 →
    whileGo c (dPrim .notN (dCons lkE dNil)) (sAppend 8 lkE) f [o0, o1, o2, some (dObj w0.length), o4, o5, o6, o7, some (.list ((R ++ [x]).map dR))] (w0 ++ [fsK K]) = some (.next [o0, o1, o2, some (dObj w0.length), o4, o5, o6, o7, some (.list ((R ++ P).map dR))], w0 ++ [fsK K]) := by
  intro x P w
  induction w with
  | root h =>
    intro f R hf hR
    cases f with
    | zero => omega
    | succ f =>
      have l := lk_ev (c := c) (w0 := w0) nd h R o0 o1 o2 o4 o5 o6 o7
      refine while_end ?_
      rw [e_dPrim, e_dCons, l]
      rfl
  | @step x p P h w ih =>
    intro f R hf hR
    rw [List.length_cons] at hf hR
    cases f with
    | zero => omega
    | succ f =>
      have l := lk_ev (c := c) (w0 := w0) nd h R o0 o1 o2 o4 o5 o6 o7
      have t : dPrim .notN (dCons lkE dNil) c [o0, o1, o2, some (dObj w0.length), o4, o5, o6, o7, some (.list ((R ++ [x]).map dR))] (w0 ++ [fsK K]) = some (.val (.bool true), w0 ++ [fsK K]) := by
        rw [e_dPrim, e_dCons, l]
        rfl
      have b : sAppend 8 lkE c [o0, o1, o2, some (dObj w0.length), o4, o5, o6, o7, some (.list ((R ++ [x]).map dR))] (w0 ++ [fsK K]) = some (.next [o0, o1, o2, some (dObj w0.length), o4, o5, o6, o7, some (.list ((R ++ [x] ++ [p]).map dR))], w0 ++ [fsK K]) := by
        unfold sAppend
        simp only [List.getElem?_cons_succ, List.getElem?_cons_zero, l]
        rw [if_pos (by
          rw [show plain (oDr (some p)) = true from rfl, Bool.true_and, decide_eq_true_eq, List.length_map, List.length_append, List.length_singleton]
          unfold zL; omega), List.map_append (l₂ := [p])]
        rfl
      rw [while_go t b, ih f (R ++ [x]) (by omega) (by rw [List.length_append, List.length_singleton]; omega), List.append_assoc]
      rfl
theorem allR_row : ∀ s : Nat, 2 ≤ s ∧ s ≤ 5 → ∀ x ∈ allR s, x.length + 1 = s ∧ OkR s x ∧ resL s x = cyc s := fun s hs => by
  have key : ∀ s : Nat, ((allR s).all fun x => decide (x.length + 1 = s) && (x.all (fun p => decide (Ok s p)) && decide (resL s x = cyc s))) = true → ∀ x ∈ allR s, x.length + 1 = s ∧ OkR s x ∧ resL s x = cyc s := fun s h x hx => by
    have z := List.all_eq_true.mp h x hx
    simp only [Bool.and_eq_true, decide_eq_true_eq, List.all_eq_true] at z
    exact ⟨z.1, z.2.1, z.2.2⟩
  have : s = 2 ∨ s = 3 ∨ s = 4 ∨ s = 5 := by omega
  rcases this with rfl | rfl | rfl | rfl
  · exact key 2 (by decide +kernel)
  · exact key 3 (by decide +kernel)
  · exact key 4 (by decide +kernel)
  · exact key 5 (by decide +kernel)
end
end Rx

set_option Elab.async false
set_option linter.all false
set_option maxRecDepth 100000
set_option autoImplicit false
namespace Rx
open PySem
/-! ### road, whole -/
structure HRd (T : Tb) : Prop where
  mv : HMv T
  result_of : T i_result_of = some f_result_of
  is_round_list : T i_is_round_list = some f_is_round_list
  check_round : T i_check_round = some f_check_round
  road : T i_road = some f_road
/-- a way from r to o -/
structure Road (U : List Rw) (nb : Rw → List Rw) (r o : Rw) (F : List Rw) : Prop where
  first : F[0]? = some r
  last : ∃ F', F = F' ++ [o]
  next : ∀ (t : Nat) (a b : Rw), F[t]? = some a → F[t + 1]? = some b → b ∈ nb a
  sub : ∀ x ∈ F, x ∈ U
theorem way_road {U : List Rw} {nb : Rw → List Rw} {r : Rw} {d : Rw → Nat} {K : List (Rw × Option Rw)} {Q : List Rw} (B : BInv U nb r d K Q) : ∀ {x : Rw} {P : List Rw}, Way K r x P → Road U nb r x P.reverse := by
  intro x P w
  induction w with
  | root h =>
    refine ⟨rfl, ⟨[], rfl⟩, fun t a b ha hb => by simp at hb, fun x hx => ?_⟩
    have : x = r := by simpa using hx
    rw [this]
    exact B.sub r (List.mem_map.mpr ⟨_, h, rfl⟩)
  | @step x p P h w ih =>
    obtain ⟨i1, ⟨F', i2⟩, i3, i4⟩ := ih
    rw [List.reverse_cons, i2]
    rw [i2] at i1 i3 i4
    have hx : x ∈ nb p := by
      rcases B.par _ h with ⟨z, _⟩ | ⟨p', z, _, z2, _⟩
      · cases z
      · cases z; exact z2
    refine ⟨?_, ⟨_, rfl⟩, fun t a b ha hb => ?_, fun y hy => ?_⟩
    · rw [List.getElem?_append_left (by simp)]; exact i1
    · by_cases ht : t + 1 < (F' ++ [p]).length
      · rw [List.getElem?_append_left ht] at hb
        rw [List.getElem?_append_left (by omega)] at ha
        exact i3 t a b ha hb
      · have hl : t + 1 = (F' ++ [p]).length := by
          obtain ⟨hb1, _⟩ := List.getElem?_eq_some_iff.mp hb
          rw [List.length_append, List.length_singleton] at hb1
          omega
        rw [hl, List.getElem?_append_right (Nat.le_refl _), Nat.sub_self] at hb
        cases hb
        rw [List.length_append, List.length_singleton] at hl
        have ht2 : t = F'.length := by omega
        subst ht2
        rw [List.getElem?_append_left (by simp), List.getElem?_append_right (Nat.le_refl _), Nat.sub_self] at ha
        cases ha
        exact hx
    · rcases List.mem_append.mp hy with z | z
      · exact i4 y z
      · rw [List.mem_singleton.mp z]
        exact B.sub x (List.mem_map.mpr ⟨_, h, rfl⟩)
section
variable {T : Tb} {n : Nat}
theorem cr_yes (h : HRd T) {w : Om} {s : Nat} (hs : 2 ≤ s ∧ s ≤ 5) {r : Rw} (hr : r ∈ allR s) : run T (n + 5) 35 [.int (s : Nat), dR r] w = some (.val .none, w) := by
  obtain ⟨a, b, c⟩ := allR_row s hs r hr
  have := cround_ok (T := T) (n := n) (w := w) h.mv.in_range h.mv.check_size h.mv.is_exchange h.mv.are_exchanges h.mv.check_list h.mv.moved h.result_of h.is_round_list h.check_round (s : Int) (by omega) r b (by omega)
  rw [if_pos c] at this
  exact this
theorem cr_no (h : HRd T) {w : Om} {s : Nat} (hs : 2 ≤ s ∧ s ≤ 5) {r : Rw} (ok : OkR s r) (hl : r.length + 1 = s) (hr : resL s r ≠ cyc s) : run T (n + 5) 35 [.int (s : Nat), dR r] w = some (.exc ⟨7, .none⟩, w) := by
  have := cround_ok (T := T) (n := n) (w := w) h.mv.in_range h.mv.check_size h.mv.is_exchange h.mv.are_exchanges h.mv.check_list h.mv.moved h.result_of h.is_round_list h.check_round (s : Int) (by omega) r ok (by omega)
  rw [if_neg hr] at this
  exact this
theorem road_ok (h : HRd T) {w0 : Om} {s : Nat} (hs : 2 ≤ s ∧ s ≤ 5) {r o : Rw} (ho : o ∈ allR s) {d : Rw → Nat} (Dd : Dst (allR s) (nbR s) r d) : ∃ F fs, run T (n + 6) 59 [.int (s : Nat), dR r, dR o] w0 = some (.val (.list (F.map dR)), w0 ++ [fs]) ∧ Road (allR s) (nbR s) r o F ∧ F.length = d o + 1 := by
  have hU : ∀ x ∈ allR s, x.length + 1 = s := fun x hx => (allR_row s hs x hx).1
  have c1 := cr_yes (T := T) (n := n) (w := w0) h hs Dd.at_
  have c2 := cr_yes (T := T) (n := n) (w := w0) h hs ho
  obtain ⟨K', Q', o4, o5, o6, o7, B, hk, wl⟩ := rd_while (T := T) (n := n + 2) h.mv (w0 := w0) hs Dd hU (tabLen s hs).2.2 ho (some (dR r)) none ((allR s).length) 1000 [(r, none)] [r] (.init Dd) (Nat.le_refl _) (by simp; omega) (by have := (tabLen s hs).2.2; omega) none none none
  obtain ⟨P, wy, pl⟩ := B.way Dd (d o) o hk rfl
  have hd := Dd.few o ho
  have ch := ch_while (c := run T (n + 5)) (w0 := w0) B.nd (some (.int (s : Nat))) (some (dR r)) (some (dR o)) o4 o5 o6 o7 wy 1000 [] (by omega) (by simp; omega)
  refine ⟨P.reverse, fsK K', ?_, way_road B wy, by rw [List.length_reverse, pl]⟩
  show run T (n + 6) i_road [.int (s : Nat), dR r, dR o] w0 = _
  have fb : f_road.body = b_road := rfl
  have fe : ([PyData.int (s : Nat), dR r, dR o].map some ++ List.replicate (f_road.slots - f_road.params) none : Env) = [some (.int (s : Nat)), some (dR r), some (dR o), none, none, none, none, none, none] := rfl
  rw [run_at h.road rfl (by decide), fb, fe]
  unfold b_road
  rw [seq_next (r1 := [some (.int (s : Nat)), some (dR r), some (dR o), none, none, none, none, none, none]) (w1 := w0) (by
    simp only [e_sExpr, e_dCall, e_dCons, e_dVar, e_dNil, List.getElem?_cons_succ, List.getElem?_cons_zero, c1])]
  rw [seq_next (r1 := [some (.int (s : Nat)), some (dR r), some (dR o), none, none, none, none, none, none]) (w1 := w0) (by
    simp only [e_sExpr, e_dCall, e_dCons, e_dVar, e_dNil, List.getElem?_cons_succ, List.getElem?_cons_zero, c2])]
  rw [seq_next (r1 := [some (.int (s : Nat)), some (dR r), some (dR o), some (dObj w0.length), none, none, none, none, none]) (w1 := w0 ++ [fsK [(r, none)]]) (by
    rw [e_sAsg]
    unfold dDct
    simp only [List.getElem?_cons_succ, List.getElem?_cons_zero, rws1, Option.map_some]
    rfl)]
  rw [seq_next (r1 := [some (.int (s : Nat)), some (dR r), some (dR o), some (dObj w0.length), some (.list ([r].map dR)), none, none, none, none]) (w1 := w0 ++ [fsK [(r, none)]]) rfl]
  have wl' : sWhile 1000 (dNinD (dVar 2) (dVar 3)) rdB (run T (n + 5)) [some (.int (s : Nat)), some (dR r), some (dR o), some (dObj w0.length), some (.list ([r].map dR)), none, none, none, none] (w0 ++ [fsK [(r, none)]]) = _ := wl
  unfold rdB rnB8 rvB at wl'
  rw [seq_next wl']
  rw [seq_next (r1 := [some (.int (s : Nat)), some (dR r), some (dR o), some (dObj w0.length), o4, o5, o6, o7, some (.list ([o].map dR))]) (w1 := w0 ++ [fsK K']) rfl]
  have ch' : sWhile 1000 (dPrim .notN (dCons lkE dNil)) (sAppend 8 lkE) (run T (n + 5)) [some (.int (s : Nat)), some (dR r), some (dR o), some (dObj w0.length), o4, o5, o6, o7, some (.list ([o].map dR))] (w0 ++ [fsK K']) = some (.next [some (.int (s : Nat)), some (dR r), some (dR o), some (dObj w0.length), o4, o5, o6, o7, some (.list (P.map dR))], w0 ++ [fsK K']) := ch
  unfold lkE at ch'
  rw [seq_next ch']
  have rv : revP (.list (P.map dR)) = some (.list (P.reverse.map dR)) := by
    show some (PyData.list (P.map dR).reverse) = _
    rw [← List.map_reverse]
  have p_rev : ∀ d : D, prim .rev [d] = revP d := fun d => rfl
  simp only [e_sRet, e_dPrim, e_dCons, e_dVar, e_dNil, List.getElem?_cons_succ, List.getElem?_cons_zero, p_rev, rv, Option.map_some]
  rfl
theorem seq_exc8 {a b : Sx} {c : Cf} {r r1 : Env} {w w1 : Om} {x : Xn} (e : a c r w = some (.exc x r1, w1)) : fin (sSeq a b c r w) = some (.exc x, w1) := by
  unfold sSeq; rw [e]; rfl
/-- road of a list that is not round -/
theorem road_no1 (h : HRd T) {w : Om} {s : Nat} (hs : 2 ≤ s ∧ s ≤ 5) {r o : Rw} (hr : r ∈ allR s) (ok : OkR s o) (hl : o.length + 1 = s) (ho : resL s o ≠ cyc s) : run T (n + 6) 59 [.int (s : Nat), dR r, dR o] w = some (.exc ⟨7, .none⟩, w) := by
  have c1 := cr_yes (T := T) (n := n) (w := w) h hs hr
  have c2 := cr_no (T := T) (n := n) (w := w) h hs ok hl ho
  show run T (n + 6) i_road [.int (s : Nat), dR r, dR o] w = _
  have fb : f_road.body = b_road := rfl
  have fe : ([PyData.int (s : Nat), dR r, dR o].map some ++ List.replicate (f_road.slots - f_road.params) none : Env) = [some (.int (s : Nat)), some (dR r), some (dR o), none, none, none, none, none, none] := rfl
  rw [run_at h.road rfl (by decide), fb, fe]
  unfold b_road
  rw [seq_next (r1 := [some (.int (s : Nat)), some (dR r), some (dR o), none, none, none, none, none, none]) (w1 := w) (by
    simp only [e_sExpr, e_dCall, e_dCons, e_dVar, e_dNil, List.getElem?_cons_succ, List.getElem?_cons_zero, c1])]
  refine seq_exc8 (r1 := [some (.int (s : Nat)), some (dR r), some (dR o), none, none, none, none, none, none]) ?_
  simp only [e_sExpr, e_dCall, e_dCons, e_dVar, e_dNil, List.getElem?_cons_succ, List.getElem?_cons_zero, c2]
theorem road_no2 (h : HRd T) {w : Om} {s : Nat} (hs : 2 ≤ s ∧ s ≤ 5) {r o : Rw} (ok : OkR s r) (hl : r.length + 1 = s) (hr : resL s r ≠ cyc s) : run T (n + 6) 59 [.int (s : Nat), dR r, dR o] w = some (.exc ⟨7, .none⟩, w) := by
  have c1 := cr_no (T := T) (n := n) (w := w) h hs ok hl hr
  show run T (n + 6) i_road [.int (s : Nat), dR r, dR o] w = _
  have fb : f_road.body = b_road := rfl
  have fe : ([PyData.int (s : Nat), dR r, dR o].map some ++ List.replicate (f_road.slots - f_road.params) none : Env) = [some (.int (s : Nat)), some (dR r), some (dR o), none, none, none, none, none, none] := rfl
  rw [run_at h.road rfl (by decide), fb, fe]
  unfold b_road
  refine seq_exc8 (r1 := [some (.int (s : Nat)), some (dR r), some (dR o), none, none, none, none, none, none]) ?_
  simp only [e_sExpr, e_dCall, e_dCons, e_dVar, e_dNil, List.getElem?_cons_succ, List.getElem?_cons_zero, c1]
theorem lroad_no (h : T i__law_road = some f__law_road) {w : Om} {a b c : D} (e : run T n 59 [a, b, c] w = some (.exc ⟨7, .none⟩, w)) : run T (n + 1) 60 [a, b, c] w = some (.val (.str "not"), w) := by
  show run T (n + 1) i__law_road [a, b, c] w = _
  rw [run_at h rfl (by decide)]
  show fin (b__law_road (run T n) [some a, some b, some c, none] w) = _
  unfold b__law_road sTry
  simp only [e_sRet, e_dCall, e_dCons, e_dVar, e_dNil, List.getElem?_cons_succ, List.getElem?_cons_zero, e]
  rfl
end
end Rx

set_option Elab.async false
set_option maxRecDepth 100000
set_option linter.all false
namespace Rx
namespace Rx08
open PySem
/-! ### sorted(set(..)) of round lists -/
theorem str_pw : ∀ {ds : List D}, strB ds = true → ds.Pairwise LtD
  | [], _ => .nil
  | [x], _ => List.pairwise_singleton _ _
  | x :: y :: r, h => by
    unfold strB at h
    rw [Bool.and_eq_true, Bool.not_eq_true'] at h
    have ih := str_pw h.2
    refine List.pairwise_cons.mpr ⟨fun z hz => ?_, ih⟩
    rcases List.mem_cons.mp hz with e | hz
    · rw [e]; exact h.1
    · exact LtD.trans (show LtD x y from h.1) ((List.pairwise_cons.mp ih).1 z hz)
theorem nd_inj : ∀ {l : List Rw}, ndI (l.map rowH) = true → ∀ a ∈ l, ∀ b ∈ l, rowH a = rowH b → a = b
  | [], _, a, ha, _, _, _ => by cases ha
  | x :: l, h, a, ha, b, hb, e => by
    rw [List.map_cons] at h
    unfold ndI at h
    rw [Bool.and_eq_true, Bool.not_eq_true'] at h
    have no : ∀ y ∈ l, rowH y ≠ rowH x := fun y hy z => by
      have : (l.map rowH).contains (rowH x) = true := List.contains_iff_mem.mpr (z ▸ List.mem_map.mpr ⟨y, hy, rfl⟩)
      rw [this] at h; cases h.1
    rcases List.mem_cons.mp ha with ha | ha
    · rcases List.mem_cons.mp hb with hb | hb
      · rw [ha, hb]
      · rw [ha] at e; exact absurd e.symm (no b hb)
    · rcases List.mem_cons.mp hb with hb | hb
      · rw [hb] at e; exact absurd e (no a ha)
      · exact nd_inj h.2 a ha b hb e
theorem lt_asy : ∀ {l : List D}, l.Pairwise LtD → AsyD l
  | [], _, x, hx, _, _, _, _ => by cases hx
  | z :: l, h, x, hx, y, hy, e1, e2 => by
    obtain ⟨h1, h2⟩ := List.pairwise_cons.mp h
    rcases List.mem_cons.mp hx with hx | hx
    · rcases List.mem_cons.mp hy with hy | hy
      · rw [hx, hy]
      · have := h1 y hy; rw [hx] at e2; rw [this] at e2; cases e2
    · rcases List.mem_cons.mp hy with hy | hy
      · have := h1 x hx; rw [hy] at e1; rw [this] at e1; cases e1
      · exact lt_asy h2 x hx y hy e1 e2
theorem dR_inj {a b : Rw} (h : dR a = dR b) : a = b := by
  have := eqd_dR60 a b
  rw [h, eqd_self 8 _ (shal_row 6 b)] at this
  exact of_decide_eq_true this.symm
theorem ssA : ∀ s : Nat, 2 ≤ s ∧ s ≤ 5 → ssB (allR s) = true := fun s hs => by
  have key : ∀ s m : Nat, chkA s m = true → ssB (allR s) = true := fun s m h => by
    unfold chkA at h
    simp only [Bool.and_eq_true] at h
    exact h.2.1
  have : s = 2 ∨ s = 3 ∨ s = 4 ∨ s = 5 := by omega
  rcases this with rfl | rfl | rfl | rfl
  · exact key 2 1 ca2
  · exact key 3 3 ca3
  · exact key 4 16 ca4
  · exact key 5 125 ca5
theorem rows_of : ∀ {l : List D} {ys : List Rw}, (∀ x ∈ l, x ∈ ys.map dR) → ∃ Z : List Rw, l = Z.map dR
  | [], _, _ => ⟨[], rfl⟩
  | x :: l, ys, h => by
    obtain ⟨Z, e⟩ := rows_of (l := l) (ys := ys) fun y hy => h y (List.mem_cons_of_mem _ hy)
    obtain ⟨z, _, hz⟩ := List.mem_map.mp (h x List.mem_cons_self)
    exact ⟨z :: Z, by rw [List.map_cons, e, hz]⟩
theorem ssu_rws {s : Nat} (hs : 2 ≤ s ∧ s ≤ 5) {ys : List Rw} (hy : ∀ y ∈ ys, y ∈ allR s) (hl : ys.length ≤ 300) : ∃ Z : List Rw, ssuP (.list (ys.map dR)) = some (.list (Z.map dR)) ∧ Z.Nodup ∧ ∀ x, x ∈ Z ↔ x ∈ ys := by
  have A := ssA s hs
  unfold ssB at A
  simp only [Bool.and_eq_true, decide_eq_true_eq, List.all_eq_true] at A
  obtain ⟨_, a2, a3, _⟩ := A
  have inj := nd_inj a2
  have asy := lt_asy (str_pw a3)
  have asyY : AsyD (ys.map dR) := fun x hx y hy' e1 e2 => by
    obtain ⟨a, ha, rfl⟩ := List.mem_map.mp hx
    obtain ⟨b, hb, rfl⟩ := List.mem_map.mp hy'
    exact asy _ (List.mem_map_of_mem (hy a ha)) _ (List.mem_map_of_mem (hy b hb)) e1 e2
  have c1 : inj1 ys = true := by
    unfold inj1
    rw [List.all_eq_true]
    intro a ha
    rw [List.all_eq_true]
    intro b hb
    by_cases e : rowH a = rowH b
    · rw [decide_eq_true (inj a (hy a ha) b (hy b hb) e), Bool.or_true]
    · rw [decide_eq_false e]; rfl
  have c2 : asy1 ys = true := by
    unfold asy1
    rw [List.all_eq_true]
    intro a ha
    rw [List.all_eq_true]
    intro b hb
    cases e1 : led (dRow a) (dRow b) with
    | false => rfl
    | true =>
      cases e2 : led (dRow b) (dRow a) with
      | false => rfl
      | true =>
        have := asyY (dR a) (List.mem_map_of_mem ha) (dR b) (List.mem_map_of_mem hb) e1 e2
        rw [decide_eq_true (dR_inj this)]; rfl
  have ok : srtOk (ys.map dR) = true := srtOk_rws (fun r hr e => by
    have := (allR_row s hs r (hy r hr)).1
    rw [e] at this
    simp at this
    omega) (by omega)
  obtain ⟨Z, eZ⟩ := rows_of (l := usrt (ys.map dR)) (ys := ys) fun x hx => usrt_sub hx
  refine ⟨Z, ?_, ?_, fun x => ?_⟩
  · show ((rwsOf (ys.map dR)).bind fun rs => if (decide (rs.length ≤ 300) && (inj1 rs && (asy1 rs && srtOk (ys.map dR)))) = true then some (PyData.list (usrt (ys.map dR))) else none) = _
    rw [rwsOf_rws]
    show (if (decide (ys.length ≤ 300) && (inj1 ys && (asy1 ys && srtOk (ys.map dR)))) = true then some (PyData.list (usrt (ys.map dR))) else none) = _
    rw [decide_eq_true hl, c1, c2, ok, eZ]
    rfl
  · have p := usrt_asc (l := ys.map dR)
    rw [eZ, List.pairwise_map] at p
    exact p.imp fun {a b} h e => by rw [e] at h; exact h.asym h
  · have m := usrt_mem (y := dR x) asyY
    rw [eZ] at m
    constructor
    · intro hx
      obtain ⟨y, hy2, e⟩ := List.mem_map.mp (m.mp (List.mem_map_of_mem hx))
      rw [← dR_inj e]; exact hy2
    · intro hx
      obtain ⟨y, hy2, e⟩ := List.mem_map.mp (m.mpr (List.mem_map_of_mem hx))
      rw [← dR_inj e]; exact hy2
theorem inP_r8 (x : Rw) (S : List Rw) : inP (dR x) (.list (S.map dR)) = some (decide (x ∈ S)) := by
  have e : eqOk (dR x) (.list (S.map dR)) = true := by unfold eqOk; rw [shal_row 6]; rfl
  show (if eqOk (dR x) (.list (S.map dR)) = true then some ((S.map dR).any fun z => eqd z (dR x)) else none) = _
  rw [if_pos e]
  congr 1
  rw [Bool.eq_iff_iff, List.any_eq_true, decide_eq_true_eq]
  constructor
  · rintro ⟨d, hd, h⟩
    obtain ⟨y, hy, rfl⟩ := List.mem_map.mp hd
    rw [eqd_dR60, decide_eq_true_eq] at h
    rw [← h]; exact hy
  · intro h
    exact ⟨dR x, List.mem_map_of_mem h, by rw [eqd_dR60]; exact decide_eq_true rfl⟩
theorem p_notin8 (x y : D) : prim .notin [x, y] = (inP x y).map fun b => .bool (!b) := rfl
theorem add_l8 (a b : List Rw) (h : a.length + b.length ≤ 100000) : addP (.list (a.map dR)) (.list (b.map dR)) = some (.list ((a ++ b).map dR)) := by
  have : (a.map dR).length + (b.map dR).length ≤ zL := by rw [List.length_map, List.length_map]; unfold zL; omega
  show (if (a.map dR).length + (b.map dR).length ≤ zL then some (PyData.list (a.map dR ++ b.map dR)) else none) = _
  rw [if_pos this, List.map_append]
/-! ### the loops of the law -/
def lnB : Sx := (sAsg 9 (dPrim .add (dCons (dVar 9) (dCons (dPrim .lst (dCons (dCall 54 (dCons (dVar 2) (dCons (dVar 10) (dCons (dVar 11) dNil)))) (dCons (dCall 55 (dCons (dVar 2) (dCons (dVar 10) (dCons (dVar 11) dNil)))) dNil))) dNil))))
def loB8 : Sx := (sFor (iRng (dCons (dPrim .sub (dCons (dVar 2) (dCons (dC (.int 2)) dNil))) dNil)) (.nm 11) lnB)
def naB : Sx := (sAsg 13 (dPrim .add (dCons (dVar 13) (dCons (dPrim .lst (dCons (dCall 54 (dCons (dVar 2) (dCons (dPrim .ix (dCons (dVar 5) (dCons (dPrim .sub (dCons (dVar 12) (dCons (dC (.int 1)) dNil))) dNil))) (dCons (dVar 11) dNil)))) (dCons (dCall 55 (dCons (dVar 2) (dCons (dPrim .ix (dCons (dVar 5) (dCons (dPrim .sub (dCons (dVar 12) (dCons (dC (.int 1)) dNil))) dNil))) (dCons (dVar 11) dNil)))) dNil))) dNil))))
section
variable {T : Tb} {w : Om}
theorem ln_loop (h : Has T) (hm : HMv T) {s : Nat} (hs : 2 ≤ s ∧ s ≤ 5) {p : Rw} (ok : OkR s p) (hp : p.length + 1 = s) (o0 o1 o3 o4 o5 o6 o7 o8 o12 o13 o14 : Option D) : ∀ (ks : List Nat), (∀ k ∈ ks, k + 2 ≤ p.length) → ∀ (Y : List Rw), Y.length + 2 * ks.length ≤ 10000 → ∀ o11 : Option D, ∃ o11', forGo (run T 7) (.nm 11) lnB (ks.map fun (k : Nat) => PyData.int (k : Int)) [o0, o1, some (.int (s : Nat)), o3, o4, o5, o6, o7, o8, some (.list (Y.map dR)), some (dR p), o11, o12, o13, o14] w = some (.next [o0, o1, some (.int (s : Nat)), o3, o4, o5, o6, o7, o8, some (.list ((Y ++ ks.flatMap fun k => [ltr p k, erl p k]).map dR)), some (dR p), o11', o12, o13, o14], w)
  | [], _, Y, _, o11 => ⟨o11, by simp [forGo]⟩
  | k :: ks, hk, Y, hl, o11 => by
    rw [List.length_cons] at hl
    have hk0 := hk k List.mem_cons_self
    have l1 := mvl_R (T := T) (n := 2) (w := w) hm h.move_later (by omega) ok hp hk0
    have l2 := mve_R (T := T) (n := 2) (w := w) hm h.move_earlier (by omega) ok hp hk0
    replace l1 : run T 7 54 [.int (s : Nat), dR p, .int (k : Nat)] w = _ := l1
    replace l2 : run T 7 55 [.int (s : Nat), dR p, .int (k : Nat)] w = _ := l2
    have ls : lstP [dR (ltr p k), dR (erl p k)] = some (.list ([ltr p k, erl p k].map dR)) := rfl
    have ad := add_l8 Y [ltr p k, erl p k] (by simp; omega)
    have b : lnB (run T 7) [o0, o1, some (.int (s : Nat)), o3, o4, o5, o6, o7, o8, some (.list (Y.map dR)), some (dR p), some (.int (k : Nat)), o12, o13, o14] w = some (.next [o0, o1, some (.int (s : Nat)), o3, o4, o5, o6, o7, o8, some (.list ((Y ++ [ltr p k, erl p k]).map dR)), some (dR p), some (.int (k : Nat)), o12, o13, o14], w) := by
      unfold lnB
      simp only [e_sAsg, e_dPrim, e_dCons, e_dVar, e_dNil, e_dCall, List.getElem?_cons_succ, List.getElem?_cons_zero, l1, l2, p_lst, ls, Option.map_some, p_add, ad]
      rfl
    obtain ⟨o11', e⟩ := ln_loop h hm hs ok hp o0 o1 o3 o4 o5 o6 o7 o8 o12 o13 o14 ks (fun j hj => hk j (List.mem_cons_of_mem _ hj)) (Y ++ [ltr p k, erl p k]) (by simp; omega) (some (.int (k : Nat)))
    refine ⟨o11', ?_⟩
    rw [List.map_cons, forGo_cons (r1 := [o0, o1, some (.int (s : Nat)), o3, o4, o5, o6, o7, o8, some (.list (Y.map dR)), some (dR p), some (.int (k : Nat)), o12, o13, o14]) rfl b, e, List.flatMap_cons, List.append_assoc]
theorem lo_loop8 (h : Has T) (hm : HMv T) {s : Nat} (hs : 2 ≤ s ∧ s ≤ 5) (o0 o1 o3 o4 o5 o6 o7 o8 o12 o13 o14 : Option D) : ∀ (l : List Rw), (∀ x ∈ l, x ∈ allR s) → ∀ (Y : List Rw), Y.length + 6 * l.length ≤ 9000 → ∀ o10 o11 : Option D, ∃ o10' o11', forGo (run T 7) (.nm 10) loB8 (l.map dR) [o0, o1, some (.int (s : Nat)), o3, o4, o5, o6, o7, o8, some (.list (Y.map dR)), o10, o11, o12, o13, o14] w = some (.next [o0, o1, some (.int (s : Nat)), o3, o4, o5, o6, o7, o8, some (.list ((Y ++ l.flatMap (nbR s)).map dR)), o10', o11', o12, o13, o14], w)
  | [], _, Y, _, o10, o11 => ⟨o10, o11, by simp [forGo]⟩
  | p :: l, hU, Y, hl, o10, o11 => by
    rw [List.length_cons] at hl
    obtain ⟨r1, r2, _⟩ := allR_row s hs p (hU p List.mem_cons_self)
    obtain ⟨o11', e⟩ := ln_loop (T := T) (w := w) h hm hs r2 r1 o0 o1 o3 o4 o5 o6 o7 o8 o12 o13 o14 (List.range (s - 2)) (fun k hk => by have := List.mem_range.mp hk; omega) Y (by rw [List.length_range]; omega) o11
    have b : loB8 (run T 7) [o0, o1, some (.int (s : Nat)), o3, o4, o5, o6, o7, o8, some (.list (Y.map dR)), some (dR p), o11, o12, o13, o14] w = some (.next [o0, o1, some (.int (s : Nat)), o3, o4, o5, o6, o7, o8, some (.list ((Y ++ nbR s p).map dR)), some (dR p), o11', o12, o13, o14], w) := by
      unfold loB8
      refine (for_of (tg := .nm 11) (body := lnB) (e_iRng1 _ _ _ _ ((s : Int) - 2) (by
        simp only [e_dPrim, e_dCons, e_dVar, e_dC, e_dNil, List.getElem?_cons_succ, List.getElem?_cons_zero, p_sub, subP_int, Option.map_some]) (by unfold inR; simp; omega))).trans ?_
      rw [rng_nat s hs.1]
      exact e
    have ln : (nbR s p).length ≤ 6 := by
      unfold nbR
      refine Nat.le_trans (flatLen (m := 2) fun k _ => Nat.le_refl _) ?_
      rw [List.length_range]; omega
    obtain ⟨q10, q11, e2⟩ := lo_loop8 h hm hs o0 o1 o3 o4 o5 o6 o7 o8 o12 o13 o14 l (fun x hx => hU x (List.mem_cons_of_mem _ hx)) (Y ++ nbR s p) (by rw [List.length_append]; omega) (some (dR p)) o11'
    refine ⟨q10, q11, ?_⟩
    rw [List.map_cons, forGo_cons (r1 := [o0, o1, some (.int (s : Nat)), o3, o4, o5, o6, o7, o8, some (.list (Y.map dR)), some (dR p), o11, o12, o13, o14]) rfl b, e2, List.flatMap_cons, List.append_assoc]
/-- one level after the other -/
structure LInv (U : List Rw) (d : Rw → Nat) (j : Nat) (L S : List Rw) : Prop where
  ndL : L.Nodup
  ndS : S.Nodup
  lev : ∀ x, x ∈ L ↔ x ∈ U ∧ d x = j
  seen : ∀ x, x ∈ S ↔ x ∈ U ∧ d x ≤ j
def lwB : Sx := (sSeq (sAsg 9 (dPrim .lst dNil))
    (sSeq (sFor (iSeq (dVar 6)) (.nm 10) loB8)
    (sSeq (sAsg 6 (dComp (iSeq (dSsu (dVar 9))) (.nm 10) (some (dPrim .notin (dCons (dVar 10) (dCons (dVar 7) dNil)))) (dVar 10) [10]))
    (sSeq (sAsg 7 (dPrim .add (dCons (dVar 7) (dCons (dVar 6) dNil))))
    (sAsg 8 (dPrim .add (dCons (dVar 8) (dCons (dC (.int 1)) dNil))))))))
theorem lwB_ok (h : Has T) (hm : HMv T) {s : Nat} (hs : 2 ≤ s ∧ s ≤ 5) {r : Rw} {d : Rw → Nat} (Dd : Dst (allR s) (nbR s) r d) {j : Nat} {L S : List Rw} (I : LInv (allR s) d j L S) (o0 o1 o3 o4 o5 o9 o10 o11 o12 o13 o14 : Option D) :
    ∃ L' S' o9' o10' o11', LInv (allR s) d (j + 1) L' S' ∧ lwB (run T 7) [o0, o1, some (.int (s : Nat)), o3, o4, o5, some (.list (L.map dR)), some (.list (S.map dR)), some (.int (j : Nat)), o9, o10, o11, o12, o13, o14] w = some (.next [o0, o1, some (.int (s : Nat)), o3, o4, o5, some (.list (L'.map dR)), some (.list (S'.map dR)), some (.int ((j + 1 : Nat) : Int)), o9', o10', o11', o12, o13, o14], w) := by
  have hLU : ∀ x ∈ L, x ∈ allR s := fun x hx => ((I.lev x).mp hx).1
  have lL : L.length ≤ 50 := Dd.lev j L I.ndL fun x hx => (I.lev x).mp hx
  have lS : S.length ≤ 125 := Nat.le_trans (nd_len S (allR s) I.ndS fun x hx => ((I.seen x).mp hx).1) (tabLen s hs).2.2
  obtain ⟨o10', o11', e⟩ := lo_loop8 (T := T) (w := w) h hm hs o0 o1 o3 o4 o5 (some (.list (L.map dR))) (some (.list (S.map dR))) (some (.int (j : Nat))) o12 o13 o14 L hLU [] (by simp; omega) o10 o11
  rw [List.nil_append] at e
  have ln6 : ∀ p, (nbR s p).length ≤ 6 := fun p => by
    unfold nbR
    refine Nat.le_trans (flatLen (m := 2) fun k _ => Nat.le_refl _) ?_
    rw [List.length_range]; omega
  have lY : (L.flatMap (nbR s)).length ≤ 300 := Nat.le_trans (flatLen (m := 6) fun p _ => ln6 p) (by omega)
  have hYU : ∀ y ∈ L.flatMap (nbR s), y ∈ allR s := fun y hy => by
    obtain ⟨p, hp, hy⟩ := List.mem_flatMap.mp hy
    exact (Dd.near p (hLU p hp) y hy).1
  obtain ⟨Z, eZ, ndZ, mZ⟩ := ssu_rws hs hYU lY
  have lZ : Z.length ≤ 125 := Nat.le_trans (nd_len Z (allR s) ndZ fun x hx => hYU x ((mZ x).mp hx)) (tabLen s hs).2.2
  -- the next level
  have lev : ∀ x, x ∈ Z.filter (fun x => !decide (x ∈ S)) ↔ x ∈ allR s ∧ d x = j + 1 := fun x => by
    rw [List.mem_filter, mZ]
    constructor
    · rintro ⟨h1, h2⟩
      obtain ⟨p, hp, hy⟩ := List.mem_flatMap.mp h1
      obtain ⟨q1, q2⟩ := Dd.near p (hLU p hp) x hy
      have hd := ((I.lev p).mp hp).2
      have : x ∉ S := by simpa using h2
      have : ¬ d x ≤ j := fun z => this ((I.seen x).mpr ⟨q1, z⟩)
      exact ⟨q1, by omega⟩
    · rintro ⟨h1, h2⟩
      obtain ⟨z, zU, zd, zn⟩ := Dd.back x h1 j h2
      refine ⟨List.mem_flatMap.mpr ⟨z, (I.lev z).mpr ⟨zU, zd⟩, zn⟩, ?_⟩
      have : x ∉ S := fun q => by have := ((I.seen x).mp q).2; omega
      simpa using this
  have ndL' : (Z.filter fun x => !decide (x ∈ S)).Nodup := List.Pairwise.filter _ ndZ
  have lL' : (Z.filter fun x => !decide (x ∈ S)).length ≤ 125 := Nat.le_trans (List.length_filter_le _ _) lZ
  refine ⟨Z.filter fun x => !decide (x ∈ S), S ++ Z.filter fun x => !decide (x ∈ S), some (.list ((L.flatMap (nbR s)).map dR)), o10', o11', ⟨ndL', ?_, lev, fun x => ?_⟩, ?_⟩
  · rw [List.nodup_append]
    refine ⟨I.ndS, ndL', fun a ha b hb e => ?_⟩
    subst e
    have q1 := ((I.seen a).mp ha).2
    have q2 := ((lev a).mp hb).2
    omega
  · rw [List.mem_append, I.seen, lev]
    constructor
    · rintro (⟨a, b⟩ | ⟨a, b⟩)
      · exact ⟨a, by omega⟩
      · exact ⟨a, by omega⟩
    · rintro ⟨a, b⟩
      by_cases q : d x ≤ j
      · exact .inl ⟨a, q⟩
      · exact .inr ⟨a, by omega⟩
  · have l0 : lstP [] = some (.list (([] : List Rw).map dR)) := rfl
    have hf : sFor (iSeq (dVar 6)) (.nm 10) loB8 (run T 7) [o0, o1, some (.int (s : Nat)), o3, o4, o5, some (.list (L.map dR)), some (.list (S.map dR)), some (.int (j : Nat)), some (.list (([] : List Rw).map dR)), o10, o11, o12, o13, o14] w = _ := (for_of rfl).trans e
    have src : iSeq (dSsu (dVar 9)) (run T 7) [o0, o1, some (.int (s : Nat)), o3, o4, o5, some (.list (L.map dR)), some (.list (S.map dR)), some (.int (j : Nat)), some (.list ((L.flatMap (nbR s)).map dR)), o10', o11', o12, o13, o14] w = some (.vals (Z.map dR), w) := by
      unfold dSsu
      simp only [e_iSeq, e_dVar, List.getElem?_cons_succ, List.getElem?_cons_zero, eZ, Option.map_some]
      rfl
    have hc : dComp (iSeq (dSsu (dVar 9))) (.nm 10) (some (dPrim .notin (dCons (dVar 10) (dCons (dVar 7) dNil)))) (dVar 10) [10] (run T 7) [o0, o1, some (.int (s : Nat)), o3, o4, o5, some (.list (L.map dR)), some (.list (S.map dR)), some (.int (j : Nat)), some (.list ((L.flatMap (nbR s)).map dR)), o10', o11', o12, o13, o14] w = some (.val (.list ((Z.filter fun x => !decide (x ∈ S)).map dR)), w) :=
      dComp_filter (fun x => !decide (x ∈ S)) dR dR Z src (fun x _ => ⟨_, rfl, by
        have q := inP_r8 x S
        simp only [wipeR, List.set, e_dPrim, e_dCons, e_dVar, e_dNil, List.getElem?_cons_succ, List.getElem?_cons_zero, p_notin8, q, Option.map_some], fun _ => ⟨rfl, rfl⟩⟩) (by unfold zL; omega)
    have ad := add_l8 S (Z.filter fun x => !decide (x ∈ S)) (by omega)
    generalize (Z.filter fun x => !decide (x ∈ S)) = L' at *
    unfold lwB
    rw [seq_next (r1 := [o0, o1, some (.int (s : Nat)), o3, o4, o5, some (.list (L.map dR)), some (.list (S.map dR)), some (.int (j : Nat)), some (.list (([] : List Rw).map dR)), o10, o11, o12, o13, o14]) (w1 := w) rfl]
    rw [seq_next hf]
    rw [seq_next (r1 := [o0, o1, some (.int (s : Nat)), o3, o4, o5, some (.list (L'.map dR)), some (.list (S.map dR)), some (.int (j : Nat)), some (.list ((L.flatMap (nbR s)).map dR)), o10', o11', o12, o13, o14]) (w1 := w) (by
      rw [e_sAsg, hc]
      rfl)]
    rw [seq_next (r1 := [o0, o1, some (.int (s : Nat)), o3, o4, o5, some (.list (L'.map dR)), some (.list ((S ++ L').map dR)), some (.int (j : Nat)), some (.list ((L.flatMap (nbR s)).map dR)), o10', o11', o12, o13, o14]) (w1 := w) (by
      simp only [e_sAsg, e_dPrim, e_dCons, e_dVar, e_dNil, List.getElem?_cons_succ, List.getElem?_cons_zero, p_add, ad, Option.map_some]
      rfl)]
    simp only [e_sAsg, e_dPrim, e_dCons, e_dVar, e_dC, e_dNil, List.getElem?_cons_succ, List.getElem?_cons_zero, p_add, addP_int, Option.map_some]
    rfl
theorem lw_while (h : Has T) (hm : HMv T) {s : Nat} (hs : 2 ≤ s ∧ s ≤ 5) {r o : Rw} {d : Rw → Nat} (Dd : Dst (allR s) (nbR s) r d) (ho : o ∈ allR s) (o0 o1 o3 o5 o12 o13 o14 : Option D) : ∀ (m f j : Nat) (L S : List Rw), LInv (allR s) d j L S → d o = j + m → m < f → ∀ o9 o10 o11 : Option D, ∃ o6' o7' o9' o10' o11',
    whileGo (run T 7) (dPrim .notin (dCons (dVar 4) (dCons (dVar 7) dNil))) lwB f [o0, o1, some (.int (s : Nat)), o3, some (dR o), o5, some (.list (L.map dR)), some (.list (S.map dR)), some (.int (j : Nat)), o9, o10, o11, o12, o13, o14] w = some (.next [o0, o1, some (.int (s : Nat)), o3, some (dR o), o5, o6', o7', some (.int (d o : Nat)), o9', o10', o11', o12, o13, o14], w)
  | m, 0, _, _, _, _, _, hf, _, _, _ => absurd hf (Nat.not_lt_zero _)
  | m, f + 1, j, L, S, I, hd, hf, o9, o10, o11 => by
    have q := inP_r8 o S
    have t : dPrim .notin (dCons (dVar 4) (dCons (dVar 7) dNil)) (run T 7) [o0, o1, some (.int (s : Nat)), o3, some (dR o), o5, some (.list (L.map dR)), some (.list (S.map dR)), some (.int (j : Nat)), o9, o10, o11, o12, o13, o14] w = some (.val (.bool (!decide (o ∈ S))), w) := by
      simp only [e_dPrim, e_dCons, e_dVar, e_dNil, List.getElem?_cons_succ, List.getElem?_cons_zero, p_notin8, q, Option.map_some]
    cases m with
    | zero =>
      have : o ∈ S := (I.seen o).mpr ⟨ho, by omega⟩
      rw [decide_eq_true this] at t
      have e : j = d o := by omega
      subst e
      exact ⟨_, _, _, _, _, while_end t⟩
    | succ m =>
      have : o ∉ S := fun z => by have := ((I.seen o).mp z).2; omega
      rw [decide_eq_false this] at t
      obtain ⟨L', S', p9, p10, p11, I', b⟩ := lwB_ok (T := T) (w := w) h hm hs Dd I o0 o1 o3 (some (dR o)) o5 o9 o10 o11 o12 o13 o14
      obtain ⟨q6, q7, q9, q10, q11, e⟩ := lw_while h hm hs Dd ho o0 o1 o3 o5 o12 o13 o14 m f (j + 1) L' S' I' (by omega) (by omega) p9 p10 p11
      exact ⟨q6, q7, q9, q10, q11, (while_go t b).trans e⟩
def stB : Sx := (sSeq (sAsg 13 (dPrim .lst dNil))
    (sSeq (sFor (iRng (dCons (dPrim .sub (dCons (dVar 2) (dCons (dC (.int 2)) dNil))) dNil)) (.nm 11) naB)
    (sIf (dOr (dPrim .notin (dCons (dPrim .ix (dCons (dVar 5) (dCons (dVar 12) dNil))) (dCons (dVar 13) dNil))) (dNot (dCall 38 (dCons (dVar 2) (dCons (dPrim .ix (dCons (dVar 5) (dCons (dVar 12) dNil))) dNil)))))
    (sRet (dC (.bool false)))
    sPass)))
theorem na_loop (h : Has T) (hm : HMv T) {s : Nat} (hs : 2 ≤ s ∧ s ≤ 5) {p : Rw} (ok : OkR s p) (hp : p.length + 1 = s) {F : List Rw} {t : Nat} (hF : F[t]? = some p) (o0 o1 o3 o4 o6 o7 o8 o9 o10 o14 : Option D) : ∀ (ks : List Nat), (∀ k ∈ ks, k + 2 ≤ p.length) → ∀ (Y : List Rw), Y.length + 2 * ks.length ≤ 10000 → ∀ o11 : Option D, ∃ o11', forGo (run T 7) (.nm 11) naB (ks.map fun (k : Nat) => PyData.int (k : Int)) [o0, o1, some (.int (s : Nat)), o3, o4, some (.list (F.map dR)), o6, o7, o8, o9, o10, o11, some (.int ((t + 1 : Nat) : Int)), some (.list (Y.map dR)), o14] w = some (.next [o0, o1, some (.int (s : Nat)), o3, o4, some (.list (F.map dR)), o6, o7, o8, o9, o10, o11', some (.int ((t + 1 : Nat) : Int)), some (.list ((Y ++ ks.flatMap fun k => [ltr p k, erl p k]).map dR)), o14], w)
  | [], _, Y, _, o11 => ⟨o11, by simp [forGo]⟩
  | k :: ks, hk, Y, hl, o11 => by
    rw [List.length_cons] at hl
    have hk0 := hk k List.mem_cons_self
    have l1 := mvl_R (T := T) (n := 2) (w := w) hm h.move_later (by omega) ok hp hk0
    have l2 := mve_R (T := T) (n := 2) (w := w) hm h.move_earlier (by omega) ok hp hk0
    replace l1 : run T 7 54 [.int (s : Nat), dR p, .int (k : Nat)] w = _ := l1
    replace l2 : run T 7 55 [.int (s : Nat), dR p, .int (k : Nat)] w = _ := l2
    have ls : lstP [dR (ltr p k), dR (erl p k)] = some (.list ([ltr p k, erl p k].map dR)) := rfl
    have ad := add_l8 Y [ltr p k, erl p k] (by simp; omega)
    have sb : prim .sub [.int ((t + 1 : Nat) : Int), .int 1] = some (.int (t : Nat)) := by
      show some (PyData.int (((t + 1 : Nat) : Int) - 1)) = _
      congr 2
      omega
    have ix : prim .ix [.list (F.map dR), .int (t : Nat)] = some (dR p) := ixL_at (by rw [List.getElem?_map, hF]; rfl)
    have b : naB (run T 7) [o0, o1, some (.int (s : Nat)), o3, o4, some (.list (F.map dR)), o6, o7, o8, o9, o10, some (.int (k : Nat)), some (.int ((t + 1 : Nat) : Int)), some (.list (Y.map dR)), o14] w = some (.next [o0, o1, some (.int (s : Nat)), o3, o4, some (.list (F.map dR)), o6, o7, o8, o9, o10, some (.int (k : Nat)), some (.int ((t + 1 : Nat) : Int)), some (.list ((Y ++ [ltr p k, erl p k]).map dR)), o14], w) := by
      unfold naB
      simp only [e_sAsg, e_dPrim, e_dCons, e_dVar, e_dC, e_dNil, e_dCall, List.getElem?_cons_succ, List.getElem?_cons_zero, sb, ix, Option.map_some, l1, l2, p_lst, ls, p_add, ad]
      rfl
    obtain ⟨o11', e⟩ := na_loop h hm hs ok hp hF o0 o1 o3 o4 o6 o7 o8 o9 o10 o14 ks (fun j hj => hk j (List.mem_cons_of_mem _ hj)) (Y ++ [ltr p k, erl p k]) (by simp; omega) (some (.int (k : Nat)))
    refine ⟨o11', ?_⟩
    rw [List.map_cons, forGo_cons (r1 := [o0, o1, some (.int (s : Nat)), o3, o4, some (.list (F.map dR)), o6, o7, o8, o9, o10, some (.int (k : Nat)), some (.int ((t + 1 : Nat) : Int)), some (.list (Y.map dR)), o14]) rfl b, e, List.flatMap_cons, List.append_assoc]
theorem ifn8 {t : Ex} {A : Sx} {c : Cf} {r : Env} {w w1 : Om} (h : t c r w = some (.val (.bool false), w1)) : sIf t A sPass c r w = some (.next r, w1) := by
  rw [e_sIf, h]; rfl
theorem st_loop (h : Has T) (hm : HMv T) {s : Nat} (hs : 2 ≤ s ∧ s ≤ 5) {r o : Rw} {F : List Rw} (R : Road (allR s) (nbR s) r o F) (o0 o1 o3 o4 o6 o7 o8 o9 o10 o14 : Option D) : ∀ (ts : List Nat), (∀ t ∈ ts, t + 1 < F.length) → ∀ o11 o12 o13 : Option D, ∃ o11' o12' o13', forGo (run T 7) (.nm 12) stB (ts.map fun (t : Nat) => PyData.int ((t + 1 : Nat) : Int)) [o0, o1, some (.int (s : Nat)), o3, o4, some (.list (F.map dR)), o6, o7, o8, o9, o10, o11, o12, o13, o14] w = some (.next [o0, o1, some (.int (s : Nat)), o3, o4, some (.list (F.map dR)), o6, o7, o8, o9, o10, o11', o12', o13', o14], w)
  | [], _, o11, o12, o13 => ⟨o11, o12, o13, rfl⟩
  | t :: ts, ht, o11, o12, o13 => by
    have ht0 := ht t List.mem_cons_self
    have ha : F[t]? = some F[t] := List.getElem?_eq_getElem (by omega)
    have hb : F[t + 1]? = some F[t + 1] := List.getElem?_eq_getElem ht0
    generalize F[t] = a at ha
    generalize F[t + 1] = b at hb
    have hn := R.next t a b ha hb
    obtain ⟨a1, a2, _⟩ := allR_row s hs a (R.sub a (List.mem_of_getElem? ha))
    obtain ⟨_, _, b3⟩ := allR_row s hs b (R.sub b (List.mem_of_getElem? hb))
    obtain ⟨o11', e⟩ := na_loop (T := T) (w := w) h hm hs a2 a1 ha o0 o1 o3 o4 o6 o7 o8 o9 o10 o14 (List.range (s - 2)) (fun k hk => by have := List.mem_range.mp hk; omega) [] (by rw [List.length_range]; simp; omega) o11
    rw [List.nil_append] at e
    replace e : forGo (run T 7) (.nm 11) naB ((List.range (s - 2)).map fun (k : Nat) => PyData.int (k : Int)) [o0, o1, some (.int (s : Nat)), o3, o4, some (.list (F.map dR)), o6, o7, o8, o9, o10, o11, some (.int ((t + 1 : Nat) : Int)), some (.list []), o14] w = some (.next [o0, o1, some (.int (s : Nat)), o3, o4, some (.list (F.map dR)), o6, o7, o8, o9, o10, o11', some (.int ((t + 1 : Nat) : Int)), some (.list ((nbR s a).map dR)), o14], w) := e
    have ix : prim .ix [.list (F.map dR), .int ((t + 1 : Nat) : Int)] = some (dR b) := ixL_at (by rw [List.getElem?_map, hb]; rfl)
    have inn := inP_r8 b (nbR s a)
    rw [decide_eq_true hn] at inn
    have lr := lisr_ok (T := T) (n := 4) (w := w) h._law_to h._law_result h._law_is_round (s : Int) (by omega) b
    rw [decide_eq_true b3] at lr
    replace lr : run T 7 38 [.int (s : Nat), dR b] w = _ := lr
    have body : stB (run T 7) [o0, o1, some (.int (s : Nat)), o3, o4, some (.list (F.map dR)), o6, o7, o8, o9, o10, o11, some (.int ((t + 1 : Nat) : Int)), o13, o14] w = some (.next [o0, o1, some (.int (s : Nat)), o3, o4, some (.list (F.map dR)), o6, o7, o8, o9, o10, o11', some (.int ((t + 1 : Nat) : Int)), some (.list ((nbR s a).map dR)), o14], w) := by
      unfold stB
      rw [seq_next (r1 := [o0, o1, some (.int (s : Nat)), o3, o4, some (.list (F.map dR)), o6, o7, o8, o9, o10, o11, some (.int ((t + 1 : Nat) : Int)), some (.list []), o14]) (w1 := w) rfl]
      have hf : sFor (iRng (dCons (dPrim .sub (dCons (dVar 2) (dCons (dC (.int 2)) dNil))) dNil)) (.nm 11) naB (run T 7) [o0, o1, some (.int (s : Nat)), o3, o4, some (.list (F.map dR)), o6, o7, o8, o9, o10, o11, some (.int ((t + 1 : Nat) : Int)), some (.list []), o14] w = some (.next [o0, o1, some (.int (s : Nat)), o3, o4, some (.list (F.map dR)), o6, o7, o8, o9, o10, o11', some (.int ((t + 1 : Nat) : Int)), some (.list ((nbR s a).map dR)), o14], w) := by
        refine (for_of (tg := .nm 11) (body := naB) (e_iRng1 _ _ _ _ ((s : Int) - 2) (by
          simp only [e_dPrim, e_dCons, e_dVar, e_dC, e_dNil, List.getElem?_cons_succ, List.getElem?_cons_zero, p_sub, subP_int, Option.map_some]) (by unfold inR; simp; omega))).trans ?_
        rw [rng_nat s hs.1]
        exact e
      rw [seq_next hf]
      refine ifn8 ?_
      simp only [e_dOr, e_dNot, e_dPrim, e_dCons, e_dVar, e_dNil, e_dCall, List.getElem?_cons_succ, List.getElem?_cons_zero, ix, Option.map_some, p_notin8, inn, truth_bool, Bool.not_true, lr]
    obtain ⟨q11, q12, q13, e2⟩ := st_loop h hm hs R o0 o1 o3 o4 o6 o7 o8 o9 o10 o14 ts (fun u hu => ht u (List.mem_cons_of_mem _ hu)) o11' (some (.int ((t + 1 : Nat) : Int))) (some (.list ((nbR s a).map dR)))
    refine ⟨q11, q12, q13, ?_⟩
    rw [List.map_cons, forGo_cons (r1 := [o0, o1, some (.int (s : Nat)), o3, o4, some (.list (F.map dR)), o6, o7, o8, o9, o10, o11, some (.int ((t + 1 : Nat) : Int)), o13, o14]) rfl body, e2]
theorem star8 {s : Nat} (hs : 2 ≤ s ∧ s ≤ 5) {r : Rw} (h : ∀ x, sem r x = sem (star s) x) : resL s r = cyc s := by
  have st : resL s (star s) = cyc s := by
    have : s = 2 ∨ s = 3 ∨ s = 4 ∨ s = 5 := by omega
    rcases this with rfl | rfl | rfl | rfl <;> decide +kernel
  rw [← st]
  unfold resL
  exact List.map_congr_left fun a _ => h _
theorem law_ok (h : Has T) (ns : List Int) : ∃ w', run T 8 0 [dScript ns] [] = some (.val (.bool true), w') := by
  have hm : HMv T := ⟨h.in_range, h.check_size, h.is_exchange, h.are_exchanges, h.check_list, h.moved, h.through, h.check_number, h.later_of, h.earlier_of⟩
  have hrd : HRd T := ⟨hm, h.result_of, h.is_round_list, h.check_round, h.road⟩
  obtain ⟨ds, hd, ed⟩ := lrow_ok (T := T) (n := 5) (w := []) h._law_cell h._law_row ns 4 (by decide)
  have at_ : ∀ k : Nat, k < 60 → ∃ x : Int, 0 ≤ x ∧ ixP (.list (ds.map .int)) (.int (k : Nat)) = some (.int x) := fun k hk => by
    obtain ⟨x, hx, e⟩ := hd.at_ k hk
    exact ⟨x, hx.1, e⟩
  generalize hds : PyData.list (ds.map .int) = dd at *
  obtain ⟨x0, h0, e0⟩ := at_ 0 (by decide)
  replace e0 : ixP dd (.int 0) = some (.int x0) := e0
  replace ed : run T 7 29 [dScript ns, .int 4] [] = _ := ed
  have m0 : modP (.int x0) (.int 4) = some (.int (x0 % 4)) := mod_pos (by decide)
  obtain ⟨s, hs0⟩ : ∃ s : Nat, (s : Int) = 2 + x0 % 4 := ⟨(2 + x0 % 4).toNat, by omega⟩
  have hs : 2 ≤ s ∧ s ≤ 5 := by omega
  have ad0 : addP (.int 2) (.int (x0 % 4)) = some (.int (s : Nat)) := by rw [hs0]; rfl
  have mem : ∀ {q : Rw}, OkR s q → (q.length : Int) = s - 1 → (∀ x, sem q x = sem (star s) x) → q ∈ allR s := fun {q} ok hl hst => by
    obtain ⟨t, ht⟩ := at_nil s (by omega)
    exact lf_mem (by omega) (s - 1) q [] 0 t (by omega) ht ok (by show q.length + 1 = s; omega) (star8 hs hst)
  obtain ⟨r, okr, lr, str, er⟩ := round_ok (T := T) (n := 4) (w := []) h._law_cell h._law_row h._law_to h._law_round ns 2 (by decide) (s : Int) (by omega)
  obtain ⟨o, oko, lo_, sto, eo⟩ := round_ok (T := T) (n := 4) (w := []) h._law_cell h._law_row h._law_to h._law_round ns 3 (by decide) (s : Int) (by omega)
  replace er : run T 7 32 [dScript ns, .int 2, .int (s : Nat)] [] = some (.val (dR r), []) := er
  replace eo : run T 7 32 [dScript ns, .int 3, .int (s : Nat)] [] = some (.val (dR o), []) := eo
  have hr := mem okr lr str
  have ho := mem oko lo_ sto
  obtain ⟨d, Dd⟩ := dst_row hs hr
  obtain ⟨F, fs, erd, R, lF⟩ := road_ok (T := T) (n := 1) (w0 := []) hrd hs ho Dd
  replace erd : run T 7 59 [.int (s : Nat), dR r, dR o] [] = some (.val (.list (F.map dR)), [fs]) := erd
  have hdo := Dd.few o ho
  have I0 : LInv (allR s) d 0 [r] [r] := ⟨by simp, by simp, fun x => by
    rw [List.mem_singleton]
    exact ⟨fun e => by rw [e]; exact ⟨hr, Dd.zero⟩, fun ⟨a, b⟩ => Dd.one x a b⟩, fun x => by
    rw [List.mem_singleton]
    exact ⟨fun e => by rw [e]; exact ⟨hr, by rw [Dd.zero]; exact Nat.le_refl _⟩, fun ⟨a, b⟩ => Dd.one x a (by omega)⟩⟩
  obtain ⟨p6, p7, p9, p10, p11, wl⟩ := lw_while (T := T) (w := [fs]) h hm hs Dd ho (some (dScript ns)) (some dd) (some (dR r)) (some (.list (F.map dR))) none none none (d o) 1000 0 [r] [r] I0 (by omega) (by omega) none none none
  replace wl : sWhile 1000 (dPrim .notin (dCons (dVar 4) (dCons (dVar 7) dNil))) lwB (run T 7) [some (dScript ns), some dd, some (.int (s : Nat)), some (dR r), some (dR o), some (.list (F.map dR)), some (.list [dR r]), some (.list [dR r]), some (.int 0), none, none, none, none, none, none] [fs] = some (.next [some (dScript ns), some dd, some (.int (s : Nat)), some (dR r), some (dR o), some (.list (F.map dR)), p6, p7, some (.int (d o : Nat)), p9, p10, p11, none, none, none], [fs]) := wl
  -- the road's ends
  have x0_ : ixP (.list (F.map dR)) (.int 0) = some (dR r) := ixL_at (k := 0) (by rw [List.getElem?_map, R.first]; rfl)
  have xl : ixP (.list (F.map dR)) (.int (-1)) = some (dR o) := by
    obtain ⟨F', e⟩ := R.last
    rw [e]
    exact ix_lastR F' o
  have nr : neP (dR r) (dR r) = some (.bool false) := neP_self (shal_row 6 r)
  have no : neP (dR o) (dR o) = some (.bool false) := neP_self (shal_row 6 o)
  have lnF : lenP (.list (F.map dR)) = some (.int (F.length : Nat)) := by
    show some (PyData.int ((F.map dR).length : Nat)) = _
    rw [List.length_map]
  have nl : neP (.int (F.length : Nat)) (.int ((d o : Int) + 1)) = some (.bool false) := by rw [neP_int, decide_eq_true (by omega)]; rfl
  have ng : negP (.int 1) = some (.int (-1)) := rfl
  obtain ⟨q11, q12, q13, sl⟩ := st_loop (T := T) (w := [fs]) h hm hs R (some (dScript ns)) (some dd) (some (dR r)) (some (dR o)) p6 p7 (some (.int (d o : Nat))) p9 p10 none (List.range (d o)) (fun t ht => by have := List.mem_range.mp ht; omega) p11 none none
  have rg : iRng (dCons (dC (.int 1)) (dCons (dPrim .len (dCons (dVar 5) dNil)) dNil)) (run T 7) [some (dScript ns), some dd, some (.int (s : Nat)), some (dR r), some (dR o), some (.list (F.map dR)), p6, p7, some (.int (d o : Nat)), p9, p10, p11, none, none, none] [fs] = some (.vals ((List.range (d o)).map fun (t : Nat) => PyData.int ((t + 1 : Nat) : Int)), [fs]) := by
    rw [e_iRng2 _ _ _ _ _ 1 (F.length : Nat) rfl (by
      simp only [e_dPrim, e_dCons, e_dVar, e_dNil, List.getElem?_cons_succ, List.getElem?_cons_zero, p_len, lnF, Option.map_some]) (by decide) (by unfold inR; simp; omega)]
    unfold rangeD
    rw [show ((F.length : Int) - 1).toNat = d o by omega]
    congr 3
    refine List.map_congr_left fun i _ => ?_
    congr 1
    omega
  have sl' : sFor (iRng (dCons (dC (.int 1)) (dCons (dPrim .len (dCons (dVar 5) dNil)) dNil))) (.nm 12) stB (run T 7) [some (dScript ns), some dd, some (.int (s : Nat)), some (dR r), some (dR o), some (.list (F.map dR)), p6, p7, some (.int (d o : Nat)), p9, p10, p11, none, none, none] [fs] = some (.next [some (dScript ns), some dd, some (.int (s : Nat)), some (dR r), some (dR o), some (.list (F.map dR)), p6, p7, some (.int (d o : Nat)), p9, p10, q11, q12, q13, none], [fs]) := (for_of rg).trans sl
  -- lists that are not round
  have t01 : tupP [.int 0, .int 1] = some (pr (0, 1)) := rfl
  have t01b : tupP [pr (0, 1)] = some (dR [(0, 1)]) := rfl
  have mu : mulP (dR [(0, 1)]) (.int ((s : Int) - 1)) = some (dR (List.replicate (s - 1) (0, 1))) := by
    show (if 1 ≤ (s : Int) - 1 ∧ (s : Int) - 1 ≤ 1000 ∧ [pr (0, 1)].length ≤ 1000 ∧ [pr (0, 1)] ≠ [] then some (PyData.tuple (List.replicate ((s : Int) - 1).toNat [pr (0, 1)]).flatten) else none) = _
    rw [if_pos ⟨by omega, by omega, by decide, by simp⟩, List.flatten_replicate_singleton, show ((s : Int) - 1).toNat = s - 1 by omega]
    unfold dR
    rw [List.map_replicate]
  have okW : OkR s (List.replicate (s - 1) ((0, 1) : Int × Int)) := fun z hz => by
    rw [(List.mem_replicate.mp hz).2]
    unfold Ok; simp only; omega
  have lW : (List.replicate (s - 1) ((0, 1) : Int × Int)).length + 1 = s := by rw [List.length_replicate]; omega
  have nW : s ≠ 2 → resL s (List.replicate (s - 1) ((0, 1) : Int × Int)) ≠ cyc s := fun h2 => by
    have : s = 3 ∨ s = 4 ∨ s = 5 := by omega
    rcases this with rfl | rfl | rfl <;> decide +kernel
  have fin2 : s ≠ 2 → run T 7 60 [.int (s : Nat), dR r, dR (List.replicate (s - 1) (0, 1))] [fs] = some (.val (.str "not"), [fs]) ∧ run T 7 60 [.int (s : Nat), dR (List.replicate (s - 1) (0, 1)), dR r] [fs] = some (.val (.str "not"), [fs]) := fun h2 =>
    ⟨lroad_no h._law_road (road_no1 (T := T) (n := 0) hrd hs hr okW lW (nW h2)), lroad_no h._law_road (road_no2 (T := T) (n := 0) hrd hs okW lW (nW h2))⟩
  generalize List.replicate (s - 1) ((0, 1) : Int × Int) = wr at *
  generalize dR [(0, 1)] = R1 at *
  have fb : f_law.body = b_law := rfl
  have fe : ([dScript ns].map some ++ List.replicate (f_law.slots - f_law.params) none : Env) = [some (dScript ns), none, none, none, none, none, none, none, none, none, none, none, none, none, none] := rfl
  refine ⟨[fs], ?_⟩
  rw [run_at h.law rfl (by decide), fb, fe]
  unfold b_law
  rw [seq_next (r1 := [some (dScript ns), some dd, none, none, none, none, none, none, none, none, none, none, none, none, none]) (w1 := []) (by
    simp only [e_sAsg, e_dCall, e_dCons, e_dVar, e_dC, e_dNil, List.getElem?_cons_succ, List.getElem?_cons_zero, ed]
    rfl)]
  rw [seq_next (r1 := [some (dScript ns), some dd, some (.int (s : Nat)), none, none, none, none, none, none, none, none, none, none, none, none]) (w1 := []) (by
    simp only [e_sAsg, e_dPrim, e_dCons, e_dVar, e_dC, e_dNil, List.getElem?_cons_succ, List.getElem?_cons_zero, p_ix, e0, p_mod, m0, p_add, ad0, Option.map_some]
    rfl)]
  rw [seq_next (r1 := [some (dScript ns), some dd, some (.int (s : Nat)), some (dR r), some (dR o), none, none, none, none, none, none, none, none, none, none]) (w1 := []) (by
    simp only [e_sPar, e_dCall, e_dCons, e_dVar, e_dC, e_dNil, List.getElem?_cons_succ, List.getElem?_cons_zero, er, eo]
    rfl)]
  rw [seq_next (r1 := [some (dScript ns), some dd, some (.int (s : Nat)), some (dR r), some (dR o), some (.list (F.map dR)), none, none, none, none, none, none, none, none, none]) (w1 := [fs]) (by
    simp only [e_sAsg, e_dCall, e_dCons, e_dVar, e_dC, e_dNil, List.getElem?_cons_succ, List.getElem?_cons_zero, erd]
    rfl)]
  rw [seq_next (r1 := [some (dScript ns), some dd, some (.int (s : Nat)), some (dR r), some (dR o), some (.list (F.map dR)), some (.list [dR r]), some (.list [dR r]), some (.int 0), none, none, none, none, none, none]) (w1 := [fs]) rfl]
  unfold lwB loB8 lnB at wl
  rw [seq_next wl]
  rw [seq_next (w1 := [fs]) (ifn8 (w1 := [fs]) (by
    simp only [e_dOr, e_dPrim, e_dCons, e_dVar, e_dC, e_dNil, List.getElem?_cons_succ, List.getElem?_cons_zero, p_ix, x0_, p_ne, nr, Option.map_some, truth_bool, p_neg, ng, xl, no, p_len, lnF, p_add, addP_int, nl]))]
  unfold stB naB at sl'
  rw [seq_next sl']
  rw [seq_next (r1 := [some (dScript ns), some dd, some (.int (s : Nat)), some (dR r), some (dR o), some (.list (F.map dR)), p6, p7, some (.int (d o : Nat)), p9, p10, q11, q12, q13, some (dR wr)]) (w1 := [fs]) (by
    simp only [e_sAsg, e_dPrim, e_dCons, e_dVar, e_dC, e_dNil, List.getElem?_cons_succ, List.getElem?_cons_zero, p_tup, t01, t01b, p_sub, subP_int, p_mul, mu, Option.map_some]
    rfl)]
  by_cases h2 : s = 2
  · have q2 : eqP (.int (s : Nat)) (.int 2) = some (.bool true) := by rw [eqP_int, decide_eq_true (by omega)]
    simp only [e_sRet, e_dOr, e_dPrim, e_dCons, e_dVar, e_dC, e_dNil, List.getElem?_cons_succ, List.getElem?_cons_zero, p_eq, q2, Option.map_some, truth_bool]
    rfl
  · have q2 : eqP (.int (s : Nat)) (.int 2) = some (.bool false) := by rw [eqP_int, decide_eq_false (by omega)]
    obtain ⟨f1, f2⟩ := fin2 h2
    have qn : eqP (.str "not") (.str "not") = some (.bool true) := rfl
    simp only [e_sRet, e_dOr, e_dAnd, e_dPrim, e_dCons, e_dVar, e_dC, e_dNil, e_dCall, List.getElem?_cons_succ, List.getElem?_cons_zero, p_eq, q2, Option.map_some, truth_bool, f1, f2, qn]
    rfl
end
end Rx08
end Rx
theorem PySem.Challenge.cw_roundexchanges_k08_whole_roads_holds : PySem.Challenge.rw_roundexchanges_k08_whole_roads.Holds :=
  Rx.Rx08.holds 8 ⟨rfl, by decide, by decide⟩ fun ns _ => Rx.Rx08.law_ok Rx.Rx08.has ns
