import PyProof.Rows.All
import Wide.All
import OpenK.AllK
import Wide.FinOn
import HandS.ForMost
import HandS.Sort
import HandS.SortRule
import HandS.SortInts
import HandS.IsInst
import HandS.Deep
import HandS.Conv
import HandS.Style
import HandS.TupAny
import HandS.WideBits
import HandS.Exc
import HandS.ExcOwn
import HandS.WordsExc
import HandS.SetFor
import HandS.Zip
import HandS.NoneIn
import HandS.Head0
import HandS.Head1
import HandS.Head2
import HandS.HeadEnd
import HandS.HeadHook1
import HandS.HeadHook2
import PySem.Challenge.RW_ordersheld_k92_whole_patterns_in_rounds
set_option Elab.async false
set_option linter.all false
set_option maxRecDepth 100000
set_option maxHeartbeats 0
namespace OH
open PySem L2

/-! ### data -/
inductive D where
  | non | bl (b : Bool) | int (i : Int) | str (s : Str) | lst (xs : List D) | tup (xs : List D) | dct
  /-- a list that is only read -/
  | fzl (xs : List D)
  /-- a list whose items were taken out: its length -/
  | rawl (n : Nat)
  /-- some other thing -/
  | oth
  deriving Inhabited

abbrev LIM : Nat := 16777216

mutual
/-- Python's == on data -/
def D.eqv : D → D → Bool
  | .non, .non => true
  | .bl a, .bl b => a == b
  | .bl a, .int j => (if a then 1 else 0) == j
  | .int i, .bl b => i == (if b then 1 else 0)
  | .int i, .int j => i == j
  | .str x, .str y => x == y
  | .lst xs, .lst ys => D.eqvL xs ys
  | .tup xs, .tup ys => D.eqvL xs ys
  | _, _ => false
def D.eqvL : List D → List D → Bool
  | [], [] => true
  | x :: xs, y :: ys => D.eqv x y && D.eqvL xs ys
  | _, _ => false
end
mutual
/-- no dict within -/
def D.flat : D → Bool
  | .dct => false
  | .oth => false
  | .rawl _ => false
  | .fzl _ => false
  | .lst xs => D.flatL xs
  | .tup xs => D.flatL xs
  | _ => true
def D.flatL : List D → Bool
  | [] => true
  | x :: xs => D.flat x && D.flatL xs
end
mutual
def D.height : D → Nat
  | .lst xs => D.heightL xs + 1
  | .tup xs => D.heightL xs + 1
  | .dct => 1
  | _ => 0
def D.heightL : List D → Nat
  | [] => 0
  | x :: xs => max (D.height x) (D.heightL xs)
end
mutual
/-- Python's < on ints, texts, lists and tuples of such, item by item; none: not comparable (or an order that is not served) -/
def D.lt : D → D → Option Bool
  | .int i, .int j => some (decide (i < j))
  | .lst xs, .lst ys => D.ltL xs ys
  | .tup xs, .tup ys => D.ltL xs ys
  | _, _ => none
def D.ltL : List D → List D → Option Bool
  | [], [] => some false
  | [], _ :: _ => some true
  | _ :: _, [] => some false
  | x :: xs, y :: ys => if D.eqv x y then D.ltL xs ys else D.lt x y
end

/-! ### operators -/
inductive Op where
  | add | sub | mul | fdiv | mod | pow | neg
  | eq | ne | lt | le | gt | ge | isN | notN | isB (b : Bool) | inn | notin
  | len | srt | srtset | listOf | tupOf | lr1 | lr2 | lr3
  | all | any | sum | sumL | max2 | min2 | maxL | minL | toInt | toStr | repr
  | isi (c : String) | isi2 (c d : String)
  | lst | tup | dct
  | ix | sl (lo hi : Bool) | rev
  | bitlen | index | count
  deriving DecidableEq

/-- an index of any sign -/
def ixN (n : Nat) (i : Int) : Option Nat := if 0 ≤ i then (if i < n then some i.toNat else none) else if -(n : Int) ≤ i then some (i + n).toNat else none
/-- an end of a slice -/
def sIx (n : Nat) (i : Int) : Nat := if 0 ≤ i then min i.toNat n else (i + n).toNat
def slice {α : Type} (xs : List α) (lo hi : Option Int) : List α :=
  let a := match lo with | some i => sIx xs.length i | none => 0
  let b := match hi with | some i => sIx xs.length i | none => xs.length
  (xs.drop a).take (b - a)

def okMul (i j : Int) : Bool := (decide (-(2 ^ 64) < i) && decide (i < 2 ^ 64)) || (decide (-(2 ^ 64) < j) && decide (j < 2 ^ 64))
def rangeL (lo : Int) (n : Nat) : List D := (List.range n).map fun (k : Nat) => D.int (lo + (k : Int))

/-- insertion, stable: x goes behind what is not greater -/
def insD (x : D) : List D → Option (List D)
  | [] => some [x]
  | y :: ys => match D.lt x y with
    | some true => some (x :: y :: ys)
    | some false => (insD x ys).map (y :: ·)
    | none => none
def sortD : List D → List D → Option (List D)
  | [], acc => some acc
  | x :: xs, acc => (insD x acc).bind fun a => sortD xs a

def intsOf : List D → Option (List Int)
  | [] => some []
  | .int i :: r => (intsOf r).map (i :: ·)
  | _ :: _ => none
def blsOf : List D → Option (List Bool)
  | [] => some []
  | .bl b :: r => (blsOf r).map (b :: ·)
  | _ :: _ => none
def lstsOf : List D → Option (List (List D))
  | [] => some []
  | .lst xs :: r => (lstsOf r).map (xs :: ·)
  | _ :: _ => none

def isiD (d : D) (c : String) : Bool := match d with
  | .non => false
  | .bl _ => c == "int" || c == "bool"
  | .int _ => c == "int"
  | .str _ => c == "str"
  | .lst _ => c == "list"
  | .tup _ => c == "tuple"
  | .dct => c == "dict"
  | .fzl _ => false
  | .rawl _ => false
  | .oth => false
def tyName (c : String) : Bool := c == "int" || c == "bool" || c == "list" || c == "tuple" || c == "str"
/-- its kind is known -/
def tyD : D → Bool | .oth => false | .rawl _ => false | .fzl _ => false | _ => true
/-- none, a truth value, a number, a text -/
def D.atm : D → Bool | .non => true | .bl _ => true | .int _ => true | .str _ => true | _ => false
/-- numbers, rising -/
def insI (x : Int) : List Int → List Int
  | [] => [x]
  | y :: ys => if x ≤ y then x :: y :: ys else y :: insI x ys
def isort : List Int → List Int
  | [] => []
  | x :: xs => insI x (isort xs)

mutual
/-- the library's data -/
def D.py : D → PyData
  | .non => .none
  | .bl b => .bool b
  | .int i => .int i
  | .str x => .str x
  | .lst xs => .list (D.pyL xs)
  | .tup xs => .tuple (D.pyL xs)
  | .dct => .dict []
  | .fzl _ => .none
  | .rawl _ => .none
  | .oth => .none
def D.pyL : List D → List PyData
  | [] => []
  | x :: xs => D.py x :: D.pyL xs
end
mutual
/-- a bound for the length of a text of it; none within: a number of more than some fifty figures, a strange text -/
def D.wt : D → Nat
  | .non => 4
  | .bl _ => 5
  | .int _ => 64
  | .str x => 12 * x.cps.size + 2
  | .lst xs => D.wtL xs + 2
  | .tup xs => D.wtL xs + 3
  | .dct => 2
  | .fzl _ => 2
  | .rawl _ => 2
  | .oth => 2
def D.wtL : List D → Nat
  | [] => 0
  | x :: xs => D.wt x + 2 + D.wtL xs
end
mutual
def D.tame : D → Bool
  | .int i => decide (i.natAbs < 10 ^ 50)
  | .str x => x.cps.toList.all (· < 0x110000)
  | .lst xs => D.tameL xs
  | .tup xs => D.tameL xs
  | _ => true
def D.tameL : List D → Bool
  | [] => true
  | x :: xs => D.tame x && D.tameL xs
end
mutual
/-- texts within are of signs -/
def D.txt : D → Bool
  | .str x => x.cps.toList.all (· < 0x110000)
  | .lst xs => D.txtL xs
  | .tup xs => D.txtL xs
  | _ => true
def D.txtL : List D → Bool
  | [] => true
  | x :: xs => D.txt x && D.txtL xs
end
/-- may be asked for == -/
def D.eqOk (d : D) : Bool := D.flat d && D.txt d && decide (D.height d ≤ 60)
/-- the text that repr gives -/
def D.shown (d : D) : Str := PyData.shown (D.py d)

/-- what an operator gives -/
def opD (o : Op) (ds : List D) : Option D := match o with
  | .add => (match ds with
    | [.int a, .int b] => some (.int (a + b))
    | [.lst a, .lst b] => if a.length + b.length ≤ LIM then some (.lst (a ++ b)) else none
    | [.tup a, .tup b] => if a.length + b.length ≤ LIM ∧ a ≠ [] ∧ b ≠ [] then some (.tup (a ++ b)) else none
    | [.str a, .str b] => if a.length + b.length ≤ LIM then some (.str (a ++ b)) else none
    | _ => none)
  | .sub => (match ds with
    | [.int a, .int b] => some (.int (a - b))
    | _ => none)
  | .mul => (match ds with
    | [.int a, .int b] => if okMul a b then some (.int (a * b)) else none
    | [.lst a, .int k] => if 0 ≤ k ∧ k < 2 ^ 63 ∧ a.length * k.toNat ≤ LIM ∧ a.all D.atm = true then some (.lst (List.replicate k.toNat a).flatten) else none
    | _ => none)
  | .fdiv => (match ds with
    | [.int a, .int b] => if b ≠ 0 ∧ b.natAbs < 1073741824 then some (.int (a.fdiv b)) else none
    | _ => none)
  | .mod => (match ds with
    | [.int a, .int b] => if b ≠ 0 then some (.int (a.fmod b)) else none
    | _ => none)
  | .pow => (match ds with
    | [.int a, .int b] => if 0 ≤ b ∧ b ≤ 1000 ∧ a.natAbs < 2 ^ 1000 then some (.int (a ^ b.toNat)) else none
    | _ => none)
  | .neg => (match ds with
    | [.int a] => some (.int (-a))
    | _ => none)
  | .eq => (match ds with
    | [a, b] => if a.eqOk && b.eqOk then some (.bl (D.eqv a b)) else none
    | _ => none)
  | .ne => (match ds with
    | [a, b] => if a.eqOk && b.eqOk then some (.bl (!D.eqv a b)) else none
    | _ => none)
  | .lt => (match ds with
    | [.int a, .int b] => some (.bl (decide (a < b)))
    | _ => none)
  | .le => (match ds with
    | [.int a, .int b] => some (.bl (decide (a ≤ b)))
    | _ => none)
  | .gt => (match ds with
    | [.int a, .int b] => some (.bl (decide (b < a)))
    | _ => none)
  | .ge => (match ds with
    | [.int a, .int b] => some (.bl (decide (b ≤ a)))
    | _ => none)
  | .isN => (match ds with
    | [a] => some (.bl (match a with | .non => true | _ => false))
    | _ => none)
  | .notN => (match ds with
    | [a] => some (.bl (match a with | .non => false | _ => true))
    | _ => none)
  | .isB b => (match ds with
    | [a] => some (.bl (match a with | .bl c => c == b | _ => false))
    | _ => none)
  | .inn => (match ds with
    | [a, .lst xs] => if a.eqOk && xs.all D.eqOk then some (.bl (xs.any fun x => D.eqv x a)) else none
    | [a, .tup xs] => if a.atm && xs.all D.atm then some (.bl (xs.any fun x => D.eqv x a)) else none
    | _ => none)
  | .notin => (match ds with
    | [a, .lst xs] => if a.eqOk && xs.all D.eqOk then some (.bl (!xs.any fun x => D.eqv x a)) else none
    | [a, .tup xs] => if a.atm && xs.all D.atm then some (.bl (!xs.any fun x => D.eqv x a)) else none
    | _ => none)
  | .len => (match ds with
    | [.lst xs] => some (.int xs.length)
    | [.tup xs] => some (.int xs.length)
    | [.fzl xs] => some (.int xs.length)
    | _ => none)
  | .srt => (match ds with
    | [.lst xs] => (intsOf xs).map fun ns => .lst ((isort ns).map D.int)
    | _ => none)
  | .listOf => (match ds with
    | [.lst xs] => some (.lst xs)
    | [.tup xs] => some (.lst xs)
    | _ => none)
  | .tupOf => (match ds with
    | [.lst xs] => some (.tup xs)
    | [.tup xs] => some (.tup xs)
    | _ => none)
  | .lr1 => (match ds with
    | [.int n] => if -LIM ≤ n ∧ n ≤ LIM then some (.lst (rangeL 0 n.toNat)) else none
    | _ => none)
  | .lr2 => (match ds with
    | [.int a, .int b] => if -LIM ≤ a ∧ a ≤ LIM ∧ -LIM ≤ b ∧ b ≤ LIM ∧ b - a ≤ LIM then some (.lst (rangeL a (b - a).toNat)) else none
    | _ => none)
  | .all => (match ds with
    | [.lst xs] => (blsOf xs).map fun bs => .bl (bs.all id)
    | _ => none)
  | .any => (match ds with
    | [.lst xs] => (blsOf xs).map fun bs => .bl (bs.any id)
    | _ => none)
  | .sum => (match ds with
    | [.lst xs] => (intsOf xs).map fun ns => .int ns.sum
    | _ => none)
  | .max2 => (match ds with
    | [.int a, .int b] => some (.int (if b > a then b else a))
    | _ => none)
  | .min2 => (match ds with
    | [.int a, .int b] => some (.int (if b < a then b else a))
    | _ => none)
  | .maxL => (match ds with
    | [.lst xs] => (intsOf xs).bind fun ns => ns.max?.map .int
    | _ => none)
  | .minL => (match ds with
    | [.lst xs] => (intsOf xs).bind fun ns => ns.min?.map .int
    | _ => none)
  | .toInt => (match ds with
    | [.int a] => some (.int a)
    | [.bl b] => some (.int (if b then 1 else 0))
    | _ => none)
  | .toStr => (match ds with
    | [.int a] => if a.natAbs < 10 ^ 50 then some (.str (toString a)) else none
    | _ => none)
  | .repr => (match ds with
    | [d] => if d.flat && PyData.showable d.py && decide (d.shown.length ≤ LIM) && decide (PyData.depth d.py ≤ 60) then some (.str d.shown) else none
    | _ => none)
  | .isi c => (match ds with
    | [d] => if tyD d && tyName c then some (.bl (isiD d c)) else none
    | _ => none)
  | .isi2 c c2 => (match ds with
    | [d] => if tyD d && tyName c && tyName c2 then some (.bl (isiD d c || isiD d c2)) else none
    | _ => none)
  | .lst => (match ds with | xs => if xs.length ≤ LIM then some (.lst xs) else none)
  | .tup => (match ds with | xs => if xs.length ≤ LIM then some (.tup xs) else none)
  | .dct => (match ds with
    | [] => some .dct
    | _ => none)
  | .ix => (match ds with
    | [.lst xs, .int i] => (ixN xs.length i).bind fun j => xs[j]?
    | [.tup xs, .int i] => (ixN xs.length i).bind fun j => xs[j]?
    | [.fzl xs, .int i] => (ixN xs.length i).bind fun j => xs[j]?
    | _ => none)
  | .sl false false => (match ds with
    | [.lst xs] => some (.lst xs)
    | _ => none)
  | .sl true false => (match ds with
    | [.lst xs, .int a] => some (.lst (slice xs (some a) none))
    | [.tup xs, .int a] => some (.tup (slice xs (some a) none))
    | _ => none)
  | .sl false true => (match ds with
    | [.lst xs, .int b] => some (.lst (slice xs none (some b)))
    | [.tup xs, .int b] => some (.tup (slice xs none (some b)))
    | [.fzl xs, .int b] => some (.lst (slice xs none (some b)))
    | _ => none)
  | .sl true true => (match ds with
    | [.lst xs, .int a, .int b] => some (.lst (slice xs (some a) (some b)))
    | _ => none)
  | .rev => (match ds with
    | [.lst xs] => some (.lst xs.reverse)
    | _ => none)
  | .bitlen => (match ds with
    | [.int i] => some (.int (Builtin.Int.intBits i : Nat))
    | _ => none)
  | .index => (match ds with
    | [.lst xs, d] => if d.eqOk && xs.all D.eqOk then (xs.findIdx? fun x => D.eqv x d).map fun j => .int (j : Nat) else none
    | _ => none)
  | .count => (match ds with
    | [.lst xs, .int k] => (intsOf xs).map fun ns => .int (ns.count k : Nat)
    | _ => none)
  | _ => none

/-! ### expressions -/
inductive ItK where
  | list | tup | r1 | r2 | r3 | enum | zip (strict : Bool) | rev | str
  deriving DecidableEq
/-- a target: names, by slots -/
inductive Tg where
  | nm (i : Nat) | tp (is : List Nat)
  deriving DecidableEq
inductive E where
  | var (i : Nat) | vin (i : Nat) | mov (i : Nat) | ref (i : Nat)
  | int (n : Int) | bl (b : Bool) | non | str (s : Str) | gint (x : Str) (n : Int)
  | op (o : Op) (es : List E)
  | chn (a : E) (o1 : Op) (b : E) (o2 : Op) (c : E)
  | and (a b : E) | or (a b : E) | not (a : E) | ite (c a b : E)
  | call (f : Nat) (es : List E) | callk (f : Nat) (es : List E) (ks : List Nat)
  | app (i : Nat) (e : E) | pop (i : Nat) | popi (i : Nat) (e : E)
  | comp (t : Tg) (own : List Nat) (k : ItK) (es : List E) (cs : List E) (e : E)
  | comp2 (t : Tg) (own : List Nat) (k : ItK) (es : List E) (cs : List E) (t2 : Tg) (own2 : List Nat) (k2 : ItK) (es2 : List E) (cs2 : List E) (e : E)
  | scal (e : E)
  /-- of so many levels at most -/
  | tall (m : Nat) (e : E)
  /-- a comprehension over a list of one's own; its items leave it -/
  | compO (t : Tg) (own : List Nat) (i : Nat) (cs : List E) (e : E)
  /-- a list whose items were taken out grows -/
  | appR (i : Nat) (e : E)

abbrev REnv := List (Option D)
/-- a call of an own def: its value, its parameters' values behind it -/
abbrev Calls := Nat → List D → Option (D × List D)

/-- what stands at a place, if any -/
def oD {α : Type} (l : List (Option α)) (i : Nat) : Option α := (l[i]?).bind id
abbrev getD (ρ : REnv) (i : Nat) : Option D := oD ρ i
def bindT : Tg → D → REnv → Option REnv
  | .nm i, d, ρ => some (ρ.set i (some d))
  | .tp is, .tup ds, ρ => if is.length = ds.length then some ((is.zip ds).foldl (fun r (p : Nat × D) => r.set p.1 (some p.2)) ρ) else none
  | .tp is, .lst ds, ρ => if is.length = ds.length then some ((is.zip ds).foldl (fun r (p : Nat × D) => r.set p.1 (some p.2)) ρ) else none
  | _, _, _ => none
def wipeD (ρ : REnv) (is : List Nat) : REnv := is.foldl (fun r i => r.set i none) ρ
/-- how many steps lo, lo + c, .. ahead of hi -/
def steps (lo hi c : Int) : Nat := (PySem.Builtin.Range.rangeSize lo hi c).toNat
/-- what is walked -/
def itD (k : ItK) (ds : List D) : Option (List D) := match k with
  | .list => (match ds with | [.lst xs] => some xs | _ => none)
  | .tup => (match ds with | [.tup xs] => some xs | _ => none)
  | .r1 => (match ds with | [.int n] => if -LIM ≤ n ∧ n ≤ LIM then some (rangeL 0 n.toNat) else none | _ => none)
  | .r2 => (match ds with | [.int a, .int b] => if -LIM ≤ a ∧ a ≤ LIM ∧ -LIM ≤ b ∧ b ≤ LIM then some (rangeL a (b - a).toNat) else none | _ => none)
  | .r3 => (match ds with | [.int a, .int b, .int c] => if -LIM ≤ a ∧ a ≤ LIM ∧ -LIM ≤ b ∧ b ≤ LIM ∧ 0 < c ∧ c ≤ LIM then some ((List.range (steps a b c)).map fun (k : Nat) => D.int (a + (k : Int) * c)) else none | _ => none)
  | .enum => (match ds with | [.lst xs] => some (xs.zipIdx.map fun p => .tup [.int (p.2 : Nat), p.1]) | _ => none)
  | .zip st => (match ds with
    | [.lst xs, .lst ys] => if xs.length = ys.length then some ((xs.zip ys).map fun p => .tup [p.1, p.2]) else if st then none else some ((xs.zip ys).map fun p => .tup [p.1, p.2])
    | [.tup xs, .tup ys] => if xs.length = ys.length then some ((xs.zip ys).map fun p => .tup [p.1, p.2]) else if st then none else some ((xs.zip ys).map fun p => .tup [p.1, p.2])
    | _ => none)
  | .rev => (match ds with | [.lst xs] => some xs.reverse | _ => none)
  | .str => (match ds with | [.str s] => some (s.cps.toList.map fun c => .str ⟨#[c]⟩) | _ => none)

/-- the new list of a comprehension: the body at each item gives an item, or none -/
def compD (body : D → REnv → Option (Option D × REnv)) (own : List Nat) : List D → REnv → List D → Option (List D × REnv)
  | [], ρ, acc => some (acc, wipeD ρ own)
  | d :: ds, ρ, acc => (body d (wipeD ρ own)).bind fun (y, ρ') => match y with
    | some y => if acc.length < LIM then compD body own ds ρ' (acc ++ [y]) else none
    | none => compD body own ds ρ' acc
/-- with an inner clause: the body gives a list of items -/
def compF (body : D → REnv → List D → Option (List D × REnv)) (own : List Nat) : List D → REnv → List D → Option (List D × REnv)
  | [], ρ, acc => some (acc, wipeD ρ own)
  | d :: ds, ρ, acc => (body d (wipeD ρ own) acc).bind fun (acc', ρ') => compF body own ds ρ' acc'

/-- the values of the parameters that were handed in by a name of one's own -/
def backD : List E → List D → REnv → REnv
  | .ref i :: es, d :: ds, ρ => backD es ds (ρ.set i (some d))
  | _ :: es, _ :: ds, ρ => backD es ds ρ
  | _, _, ρ => ρ
/-- keywords put in the parameters' order: ks.idxOf j is where the j-th parameter's value stands -/
def arrange {α : Type} (vs : List α) (ks : List Nat) : List α := (List.range ks.length).filterMap fun j => (ks.idxOf? j).bind fun i => vs[i]?

def isRef : E → Option Nat | .ref i => some i | _ => none
def fillD : List E → List (Option D) → REnv → Option (List D)
  | [], [], _ => some []
  | e :: es, o :: os, ρ => match isRef e, o with
    | some i, none => (getD ρ i).bind fun d => (fillD es os ρ).map (d :: ·)
    | none, some d => (fillD es os ρ).map (d :: ·)
    | _, _ => none
  | _, _, _ => none
def isL : Option D → Bool | some (.lst _) => true | _ => false
def isR : Option D → Bool | some (.rawl _) => true | _ => false
section
variable (cl : Calls)
mutual
def ev : E → REnv → Option (D × REnv)
  | .var i, ρ => (getD ρ i).map (·, ρ)
  | .vin i, ρ => (getD ρ i).map (·, ρ)
  | .mov i, ρ => (getD ρ i).map (·, ρ)
  | .ref i, ρ => (getD ρ i).map (·, ρ)
  | .int n, ρ => some (.int n, ρ)
  | .bl b, ρ => some (.bl b, ρ)
  | .non, ρ => some (.non, ρ)
  | .str s, ρ => some (.str s, ρ)
  | .gint _ n, ρ => some (.int n, ρ)
  | .op o es, ρ => (evs es ρ).bind fun (ds, ρ') => (opD o ds).map (·, ρ')
  | .chn a o1 b o2 c, ρ => (ev a ρ).bind fun (x, ρ1) => (ev b ρ1).bind fun (y, ρ2) => (opD o1 [x, y]).bind fun z => match z with
    | .bl true => (ev c ρ2).bind fun (w, ρ3) => (opD o2 [y, w]).map (·, ρ3)
    | .bl false => some (.bl false, ρ2)
    | _ => none
  | .and a b, ρ => (ev a ρ).bind fun (x, ρ1) => match x with
    | .bl true => ev b ρ1
    | .bl false => some (.bl false, ρ1)
    | _ => none
  | .or a b, ρ => (ev a ρ).bind fun (x, ρ1) => match x with
    | .bl true => some (.bl true, ρ1)
    | .bl false => ev b ρ1
    | _ => none
  | .not a, ρ => (ev a ρ).bind fun (x, ρ1) => match x with
    | .bl b => some (.bl (!b), ρ1)
    | _ => none
  | .ite c a b, ρ => (ev c ρ).bind fun (x, ρ1) => match x with
    | .bl true => ev a ρ1
    | .bl false => ev b ρ1
    | _ => none
  | .call f es, ρ => (eva es ρ).bind fun (os, ρ1) => (fillD es os ρ1).bind fun ds => (cl f ds).map fun (d, ds') => (d, backD es ds' ρ1)
  | .callk f es ks, ρ => (evs es ρ).bind fun (ds, ρ1) => (cl f (arrange ds ks)).map fun (d, _) => (d, ρ1)
  | .app i e, ρ => if isL (getD ρ i) then (ev e ρ).bind fun (d, ρ1) => match getD ρ1 i with
    | some (.lst xs) => if xs.length < LIM then some (.non, ρ1.set i (some (.lst (xs ++ [d])))) else none
    | _ => none
    else none
  | .pop i, ρ => match getD ρ i with
    | some (.lst xs) => (xs[xs.length - 1]?).map fun d => (d, ρ.set i (some (.lst xs.dropLast)))
    | _ => none
  | .popi i e, ρ => if isL (getD ρ i) then (ev e ρ).bind fun (k, ρ1) => match getD ρ1 i, k with
    | some (.lst xs), .int j => if 0 ≤ j ∧ j < 2 ^ 63 then (xs[j.toNat]?).map fun d => (d, ρ1.set i (some (.lst (xs.eraseIdx j.toNat)))) else none
    | _, _ => none
    else none
  | .comp t own k es cs e, ρ => (evs es ρ).bind fun (ds, ρ1) => (itD k ds).bind fun items =>
      (compD (fun d r => (bindT t d r).bind fun r1 => (evc cs r1).bind fun (b, r2) => if b then (ev e r2).map fun (y, r3) => (some y, r3) else some (none, r2)) own items ρ1 []).map fun (out, ρ2) => (.lst out, ρ2)
  | .comp2 t own k es cs t2 own2 k2 es2 cs2 e, ρ => (evs es ρ).bind fun (ds, ρ1) => (itD k ds).bind fun items =>
      (compF (fun d r acc => (bindT t d r).bind fun r1 => (evc cs r1).bind fun (b, r2) => if b then
        (evs es2 r2).bind fun (ds2, r3) => (itD k2 ds2).bind fun items2 =>
          compD (fun d r => (bindT t2 d r).bind fun r1 => (evc cs2 r1).bind fun (b, r2) => if b then (ev e r2).map fun (y, r3) => (some y, r3) else some (none, r2)) own2 items2 r3 acc
        else some (acc, r2)) own items ρ1 []).map fun (out, ρ2) => (.lst out, ρ2)
  | .scal e, ρ => (ev e ρ).bind fun (d, ρ1) => match d with
    | .lst _ => none
    | .tup _ => none
    | .dct => none
    | .fzl _ => none
    | .rawl _ => none
    | .oth => none
    | d => some (d, ρ1)
  | .tall m e, ρ => (ev e ρ).bind fun (d, ρ1) => if D.flat d && decide (D.height d ≤ m) then some (d, ρ1) else none
  | .compO t own i cs e, ρ => match getD ρ i with
    | some (.lst xs) => (compD (fun d r => (bindT t d r).bind fun r1 => (evc cs r1).bind fun (b, r2) => if b then (ev e r2).map fun (y, r3) => (some y, r3) else some (none, r2)) own xs (ρ.set i (some (.rawl xs.length))) []).map fun (out, ρ2) => (.lst out, ρ2)
    | _ => none
  | .appR i e, ρ => if isR (getD ρ i) then (ev e ρ).bind fun (_, ρ1) => match getD ρ1 i with
    | some (.rawl n) => if n < LIM then some (.non, ρ1.set i (some (.rawl (n + 1)))) else none
    | _ => none
    else none
def evs : List E → REnv → Option (List D × REnv)
  | [], ρ => some ([], ρ)
  | e :: es, ρ => (ev e ρ).bind fun (d, ρ1) => (evs es ρ1).map fun (ds, ρ2) => (d :: ds, ρ2)
/-- arguments: what is handed in by a name is read when all others are there -/
def eva : List E → REnv → Option (List (Option D) × REnv)
  | [], ρ => some ([], ρ)
  | e :: es, ρ => match isRef e with
    | some i => (getD ρ i).bind fun _ => (eva es ρ).map fun (ds, ρ2) => (none :: ds, ρ2)
    | none => (ev e ρ).bind fun (d, ρ1) => (eva es ρ1).map fun (ds, ρ2) => (some d :: ds, ρ2)
/-- a clause's tests: none or one -/
def evc : List E → REnv → Option (Bool × REnv)
  | [], ρ => some (true, ρ)
  | [e], ρ => (ev e ρ).bind fun (d, ρ1) => match d with
    | .bl b => some (b, ρ1)
    | _ => none
  | _, _ => none
end
end

/-! ### statements -/
inductive TgS where
  | nm (i : Nat) | tp (is : List Nat) | sub (i : Nat) (e : E)
  | par (is : List Nat)
  | sub2 (i : Nat) (e : E) (i2 : Nat) (e2 : E)
inductive S where
  | asg (t : Tg) (e : E)
  | par (is : List Nat) (es : List E)
  | sub (i : Nat) (k : E) (e : E)
  | sub2 (i : Nat) (k : E) (i2 : Nat) (k2 : E) (e e2 : E)
  | aug (i : Nat) (o : Op) (e : E)
  | augs (i : Nat) (k : E) (o : Op) (e : E)
  | ex (e : E)
  | ret (e : E) | retN
  | iff (c : E) (a b : List S)
  | whl (c : E) (b : List S) (kill : List Nat)
  | forr (t : Tg) (k : ItK) (es : List E) (b : List S) (kill : List Nat)
  | raise | pass
  | frm (s : S)

inductive Out where
  | nx (ρ : REnv) | rt (d : D) (ρ : REnv)

/-- the while loop's turns at most -/
abbrev WHL : Nat := 4000000
def whileD (c : REnv → Option (Bool × REnv)) (b : REnv → Option Out) (kill : List Nat) : Nat → REnv → Option Out
  | 0, _ => none
  | n + 1, ρ => (c (wipeD ρ kill)).bind fun (t, ρ1) => if t then (b ρ1).bind fun o => match o with
      | .nx ρ2 => whileD c b kill n ρ2
      | .rt d ρ2 => some (.rt d ρ2)
    else some (.nx ρ1)
def forD (b : D → REnv → Option Out) (kill : List Nat) : List D → REnv → Option Out
  | [], ρ => some (.nx (wipeD ρ kill))
  | d :: ds, ρ => (b d (wipeD ρ kill)).bind fun o => match o with
      | .nx ρ2 => forD b kill ds ρ2
      | .rt d ρ2 => some (.rt d ρ2)
def setAt (ρ : REnv) (i : Nat) (j : D) (d : D) : Option REnv := match getD ρ i, j with
  | some (.lst xs), .int k => (ixN xs.length k).map fun n => ρ.set i (some (.lst (xs.set n d)))
  | _, _ => none
def augD (o : Op) (x y : D) : Option D := match o, x, y with
  | .add, .int a, .int b => some (.int (a + b))
  | .sub, .int a, .int b => some (.int (a - b))
  | _, _, _ => none
section
variable (cl : Calls)
mutual
def evS : S → REnv → Option Out
  | .asg t e, ρ => (ev cl e ρ).bind fun (d, ρ1) => (bindT t d ρ1).map .nx
  | .par is es, ρ => (evs cl es ρ).bind fun (ds, ρ1) => if is.length = ds.length then some (.nx ((is.zip ds).foldl (fun r (p : Nat × D) => r.set p.1 (some p.2)) ρ1)) else none
  | .sub i k e, ρ => (ev cl e ρ).bind fun (d, ρ1) => if isL (getD ρ1 i) then (ev cl k ρ1).bind fun (j, ρ2) => (setAt ρ2 i j d).map .nx else none
  | .sub2 i k i2 k2 e e2, ρ => (ev cl e ρ).bind fun (d, ρ1) => (ev cl e2 ρ1).bind fun (d2, ρ2) => if isL (getD ρ2 i) then (ev cl k ρ2).bind fun (j, ρ3) => (setAt ρ3 i j d).bind fun ρ4 => if isL (getD ρ4 i2) then (ev cl k2 ρ4).bind fun (j2, ρ5) => (setAt ρ5 i2 j2 d2).map .nx else none else none
  | .aug _ _ _, _ => none
  | .augs i k o e, ρ => if isL (getD ρ i) then (ev cl k ρ).bind fun (j, ρ1) => match getD ρ1 i with
    | some (.lst l) => (opD .ix [.lst l, j]).bind fun x => (ev cl e ρ1).bind fun (y, ρ2) => (augD o x y).bind fun z => (setAt ρ2 i j z).map .nx
    | _ => none
    else none
  | .ex e, ρ => (ev cl e ρ).map fun (_, ρ1) => .nx ρ1
  | .ret e, ρ => (ev cl e ρ).map fun (d, ρ1) => .rt d ρ1
  | .retN, ρ => some (.rt .non ρ)
  | .iff c a b, ρ => (ev cl c ρ).bind fun (x, ρ1) => match x with
    | .bl true => evSs a ρ1
    | .bl false => evSs b ρ1
    | _ => none
  | .whl c b kill, ρ => whileD (fun r => (ev cl c r).bind fun (x, r1) => match x with | .bl t => some (t, r1) | _ => none) (fun r => evSs b r) kill WHL ρ
  | .forr t k es b kill, ρ => (evs cl es ρ).bind fun (ds, ρ1) => (itD k ds).bind fun items => forD (fun d r => (bindT t d r).bind fun r1 => evSs b r1) kill items ρ1
  | .raise, _ => none
  | .pass, ρ => some (.nx ρ)
  | .frm s, ρ => evS s ρ
def evSs : List S → REnv → Option Out
  | [], ρ => some (.nx ρ)
  | s :: ss, ρ => (evS s ρ).bind fun o => match o with
    | .nx ρ1 => evSs ss ρ1
    | .rt d ρ1 => some (.rt d ρ1)
end
end

/-- a def: its parameters' number, its slots, its body; which parameters it may change -/
structure Fn where
  ps : Nat
  n : Nat
  body : List S
abbrev Prg := Nat → Option Fn
def startD (n : Nat) (ds : List D) : REnv := ds.map some ++ List.replicate (n - ds.length) none
/-- the calls to a depth -/
def callD (P : Prg) : Nat → Calls
  | 0 => fun _ _ => none
  | k + 1 => fun f ds => (P f).bind fun F => if ds.length = F.ps then (evSs (callD P k) F.body (startD F.n ds)).bind fun o => match o with
      | .rt d ρ => some (d, (List.range F.ps).map fun j => (getD ρ j).getD .non)
      | .nx ρ => some (.non, (List.range F.ps).map fun j => (getD ρ j).getD .non)
    else none
end OH

namespace OH
open PySem L2

/-! ### depths: so many levels of lists and tuples are one's own; om: all -/
inductive Dp where
  | fin (n : Nat) | om
  deriving DecidableEq
namespace Dp
def pred : Dp → Dp | fin (n + 1) => fin n | fin 0 => fin 0 | om => om
def succ : Dp → Dp | fin n => fin (n + 1) | om => om
def mn : Dp → Dp → Dp | fin a, fin b => fin (min a b) | fin a, om => fin a | om, b => b
def le : Dp → Dp → Bool | fin a, fin b => decide (a ≤ b) | _, om => true | om, fin _ => false
def pos : Dp → Bool | fin 0 => false | _ => true
end Dp
def mnL : List Dp → Dp | [] => .om | k :: r => k.mn (mnL r)
abbrev Gam := List (Option Dp)
abbrev gD (g : Gam) (i : Nat) : Option Dp := oD g i
def meetO : Option Dp → Option Dp → Option Dp
  | some a, some b => some (a.mn b)
  | _, _ => none
def meet (g h : Gam) : Gam := List.zipWith meetO g h
def leO : Option Dp → Option Dp → Bool
  | none, _ => true
  | some a, some b => a.le b
  | some _, none => false
def leG (g h : Gam) : Bool := (List.range g.length).all fun i => leO (gD g i) (gD h i)
def killG (g : Gam) (is : List Nat) : Gam := is.foldl (fun r i => r.set i none) g
/-- what was known ahead is known again, but of what is lost -/
def back (g g1 : Gam) : Gam := List.zipWith (fun a b => match b with | none => none | some _ => a) g g1
/-- the same but for changed slots: known only if all one's own -/
def frame (g g1 : Gam) (ch : List Nat) : Gam := (List.range g1.length).map fun i => match gD g1 i with
  | none => none
  | some k => if i ∈ ch then (match k with | .om => some .om | _ => none) else gD g i

/-! ### which slots are changed -/
mutual
def muts : E → List Nat
  | .op _ es => mutsL es
  | .chn a _ b _ c => muts a ++ muts b ++ muts c
  | .and a b | .or a b => muts a ++ muts b
  | .not a | .scal a => muts a
  | .tall _ a => muts a
  | .compO _ _ i cs e => i :: (mutsL cs ++ muts e)
  | .appR i e => i :: muts e
  | .ite c a b => muts c ++ muts a ++ muts b
  | .call _ es => refs es ++ mutsL es
  | .callk _ es _ => mutsL es
  | .app i e => i :: muts e
  | .pop i => [i]
  | .popi i e => i :: muts e
  | .comp _ _ _ es cs e => mutsL es ++ mutsL cs ++ muts e
  | .comp2 _ _ _ es cs _ _ _ es2 cs2 e => mutsL es ++ mutsL cs ++ mutsL es2 ++ mutsL cs2 ++ muts e
  | _ => []
def mutsL : List E → List Nat
  | [] => []
  | e :: es => muts e ++ mutsL es
def refs : List E → List Nat
  | [] => []
  | .ref i :: es => i :: refs es
  | _ :: es => refs es
end
def tgs : Tg → List Nat | .nm i => [i] | .tp is => is
mutual
def chg : S → List Nat
  | .asg t e => tgs t ++ muts e
  | .par is es => is ++ mutsL es
  | .sub i k e => i :: (muts k ++ muts e)
  | .sub2 i k i2 k2 e e2 => i :: i2 :: (muts k ++ muts k2 ++ muts e ++ muts e2)
  | .aug i _ e => i :: muts e
  | .augs i k _ e => i :: (muts k ++ muts e)
  | .ex e | .ret e => muts e
  | .iff c a b => muts c ++ chgs a ++ chgs b
  | .whl c b _ => muts c ++ chgs b
  | .forr t _ es b _ => tgs t ++ mutsL es ++ chgs b
  | .frm s => chg s
  | _ => []
def chgs : List S → List Nat
  | [] => []
  | s :: ss => chg s ++ chgs ss
end

/-! ### the check -/
/-- does the operator keep its operands themselves -/
def Op.keeps : Op → Bool
  | .lst | .tup => true
  | _ => false
/-- the depth of what it gives -/
def Op.dp (o : Op) (ks : List Dp) : Dp := match o with
  | .add | .mul | .srt | .listOf | .tupOf | .sl _ _ | .rev => (mnL (ks.map Dp.pred)).succ
  | .sumL => match ks with | k :: _ => k.pred.pred.succ | _ => .fin 0
  | .lst | .tup => (mnL ks).succ
  | .ix => match ks with | k :: _ => k.pred | _ => .fin 0
  | _ => .om
def itDp : ItK → List Dp → List Dp
  | .list, [k] => [k.pred]
  | .tup, [k] => [k.pred]
  | .rev, [k] => [k.pred]
  | .r1, _ => [.om] | .r2, _ => [.om] | .r3, _ => [.om] | .str, _ => [.om]
  | .enum, [k] => [.om, k.pred]
  | .zip _, [k, k2] => [k.pred, k2.pred]
  | _, _ => []
/-- the targets' depths -/
def tgDp (t : Tg) (k : ItK) (ks : List Dp) : Option (List (Nat × Dp)) := match t, itDp k ks with
  | .nm i, [a] => some [(i, a)]
  | .nm i, [a, b] => some [(i, (a.mn b).succ)]
  | .tp is, [a] => some (is.map fun i => (i, a.pred))
  | .tp [i, j], [a, b] => if i ≠ j then some [(i, a), (j, b)] else none
  | _, _ => none
def putG (g : Gam) (ps : List (Nat × Dp)) : Gam := ps.foldl (fun r p => r.set p.1 (some p.2)) g
structure Sig where
  io : List (Option Dp)
  res : Dp
  /-- what is given back -/
  out : List (Option Dp)
def refOk : List (Option Dp) → List E → Bool
  | [], [] => true
  | k :: io, e :: es => (match isRef e with | some _ => k.isSome | none => true) && refOk io es
  | _, _ => false
def isCmpO : Op → Bool | .lt => true | .le => true | .gt => true | .ge => true | _ => false
/-- what is handed in to be changed -/
def ioPs : List (Option Dp) → List E → List (Nat × Dp)
  | some k :: io, .ref i :: es => (i, k) :: ioPs io es
  | _ :: io, _ :: es => ioPs io es
  | _, _ => []
def takeR : List (Nat × Dp) → Gam → Option Gam
  | [], g => some g
  | (i, k) :: r, g => match gD g i with
    | some k1 => if k.le k1 then takeR r (g.set i none) else none
    | none => none
def ndB (is : List Nat) : Bool := decide is.Nodup
def hasVin : List E → Bool
  | [] => false
  | .vin _ :: _ => true
  | _ :: es => hasVin es
def vinsOf : List E → List Nat
  | [] => []
  | .vin i :: es => i :: vinsOf es
  | _ :: es => vinsOf es
section
variable (sg : Nat → Sig)
mutual
def ty : E → Gam → Option (Dp × Gam)
  | .var i, g => (gD g i).map fun _ => (.fin 0, g.set i (some (.fin 0)))
  | .mov i, g => (gD g i).map fun k => (k, g.set i none)
  | .vin _, _ => none
  | .ref _, _ => none
  | .int _, g => some (.om, g)
  | .bl _, g => some (.om, g)
  | .non, g => some (.om, g)
  | .str _, g => some (.om, g)
  | .gint _ _, g => some (.om, g)
  | .op o es, g => if o.keeps && hasVin es then none else (tyo es g).map fun (ks, g1) =>
      if o.dp ks = .om ∧ mutsL es = [] then (.om, back g g1) else (o.dp ks, g1)
  | .chn a o1 b o2 c, g => if muts a ++ muts b ++ muts c = [] ∧ isCmpO o1 = true ∧ isCmpO o2 = true then (ty a g).bind fun (_, g1) => (ty b g1).bind fun (_, g2) => (ty c g2).map fun (_, g3) => (.om, back g (meet g2 g3)) else none
  | .and a b, g => (ty a g).bind fun (_, g1) => (ty b g1).map fun (k, g2) => (k, meet g1 g2)
  | .or a b, g => (ty a g).bind fun (_, g1) => (ty b g1).map fun (k, g2) => (k, meet g1 g2)
  | .not a, g => (ty a g).map fun (_, g1) => (.om, g1)
  | .ite c a b, g => (ty c g).bind fun (_, g1) => (ty a g1).bind fun (k, g2) => (ty b g1).map fun (k2, g3) => (k.mn k2, meet g2 g3)
  | .call f es, g => if (sg f).io.length = es.length ∧ refOk (sg f).out es = true then (tya (sg f).io es g).bind fun g0 => (takeR (ioPs (sg f).io es) g0).map fun g1 =>
      let g2 := if (sg f).res = .om ∧ mutsL es = [] ∧ (sg f).out.all (fun k => k == none || k == some .om) then back g g1 else g1
      ((sg f).res, putG g2 (ioPs (sg f).out es))
    else none
  | .callk f es ks, g => if (sg f).io.length = es.length ∧ (sg f).io.all (· == none) ∧ (sg f).out.all (· == none) ∧ (arrange (List.range es.length) ks).length = es.length ∧ ks.length = es.length ∧ hasVin es = false then (tyo es g).map fun (_, g1) =>
      if (sg f).res = .om ∧ mutsL es = [] then (.om, back g g1) else ((sg f).res, g1)
    else none
  | .app i e, g => if (gD g i).isNone then none else (ty e g).bind fun (ke, g1) => (gD g1 i).bind fun k => if k.pos then some (.om, g1.set i (some (k.mn ke.succ))) else none
  | .pop i, g => (gD g i).bind fun k => if k.pos then some (k.pred, g) else none
  | .popi i e, g => if (gD g i).isNone then none else (ty e g).bind fun (_, g1) => (gD g1 i).bind fun k => if k.pos then some (k.pred, g1) else none
  | .comp t own k es cs e, g => (tyo es g).bind fun (ks, g1) => (tgDp t k ks).bind fun ts =>
      if (vinsOf es).any (fun i => i ∈ mutsL cs ++ muts e) || !((tgs t).all fun i => i ∈ own) then none else
      let g0 := killG g1 own
      (tyc cs (putG g0 ts)).bind fun ga => (ty e ga).bind fun (_, gb) =>
        let gh := meet g0 (meet (killG ga own) (killG gb own))
        (tyc cs (putG gh ts)).bind fun ga' => (ty e ga').bind fun (k', gb') =>
          if leG gh (killG gb' own) && leG gh (killG ga' own) && (vinsOf es).all (fun i => (gD gh i).isSome) then
            (if k'.succ = .om ∧ mutsL es ++ mutsL cs ++ muts e = [] then some (.om, killG (back g gh) own) else some (k'.succ, gh))
          else none
  | .comp2 t own k es cs t2 own2 k2 es2 cs2 e, g => (tyo es g).bind fun (ks, g1) => (tgDp t k ks).bind fun ps =>
      if (vinsOf es).any (fun i => i ∈ mutsL cs ++ (mutsL es2 ++ (mutsL cs2 ++ muts e))) || (vinsOf es2).any (fun i => i ∈ mutsL cs2 ++ muts e) || !((tgs t).all fun i => i ∈ own) || !((tgs t2).all fun i => i ∈ own2) || !(own2.all fun i => i ∈ own) then none else
      let turn := fun (gg : Gam) => (tyc cs (putG gg ps)).bind fun ga => (tyo es2 ga).bind fun (ks2, gb) => (tgDp t2 k2 ks2).bind fun ps2 =>
        (tyc cs2 (putG (killG gb own2) ps2)).bind fun gc => (ty e gc).bind fun (_, gd) =>
          let ih := meet (killG gb own2) (meet (killG gc own2) (killG gd own2))
          (tyc cs2 (putG ih ps2)).bind fun gc' => (ty e gc').bind fun (k', gd') =>
            if leG ih (killG gd' own2) && leG ih (killG gc' own2) && (vinsOf es2).all (fun i => (gD ih i).isSome) then some (k', ga, ih) else none
      let g0 := killG g1 own
      (turn g0).bind fun (_, ga, ih) =>
        let gh := meet g0 (meet (killG ga own) (killG ih own))
        (turn gh).bind fun (k', ga', ih') =>
          if leG gh (killG ga' own) && leG gh (killG ih' own) && (vinsOf es).all (fun i => (gD gh i).isSome) then
            (if k'.succ = .om ∧ mutsL es ++ mutsL cs ++ mutsL es2 ++ mutsL cs2 ++ muts e = [] then some (.om, killG (back g gh) own) else some (k'.succ, gh))
          else none
  | .scal e, g => (ty e g).map fun (_, g1) => if muts e = [] then (.om, back g g1) else (.om, g1)
  | .tall m e, g => (ty e g).bind fun (k, g1) => if (Dp.fin m).le k then some (.om, g1) else none
  | .compO t own i cs e, g => (gD g i).bind fun k => (tgDp t .list [k]).bind fun ts =>
      if i ∈ mutsL cs ++ muts e || i ∈ own || !((tgs t).all fun i => i ∈ own) then none else
      let g0 := killG (g.set i (some (k.mn (.fin 1)))) own
      (tyc cs (putG g0 ts)).bind fun ga => (ty e ga).bind fun (_, gb) =>
        let gh := meet g0 (meet (killG ga own) (killG gb own))
        (tyc cs (putG gh ts)).bind fun ga' => (ty e ga').bind fun (k', gb') =>
          if leG gh (killG gb' own) && leG gh (killG ga' own) && (gD gh i).isSome then some (k'.succ, gh) else none
  | .appR i e, g => if (gD g i).isNone then none else (ty e g).bind fun (_, g1) => (gD g1 i).bind fun k => if k.pos then some (.om, g1.set i (some k)) else none
/-- operands: a name may be looked at without its list itself going on -/
def tyo : List E → Gam → Option (List Dp × Gam)
  | [], g => some ([], g)
  | .vin i :: es, g => if i ∈ mutsL es then none else (gD g i).bind fun k => (tyo es (g.set i (some (k.mn (.fin 1))))).bind fun (ks, g2) => if (gD g2 i).isSome then some (.fin 0 :: ks, g2) else none
  | e :: es, g => (ty e g).bind fun (k, g1) => (tyo es g1).map fun (ks, g2) => (k :: ks, g2)
/-- arguments: some by a name of one's own -/
def tya : List (Option Dp) → List E → Gam → Option Gam
  | [], [], g => some g
  | k :: io, e :: es, g => match isRef e with
    | some i => if k.isSome && (gD g i).isSome then tya io es g else none
    | none => (ty e g).bind fun (k1, g1) => if (k.getD (.fin 0)).le k1 then tya io es g1 else none
  | _, _, _ => none
def tyc : List E → Gam → Option Gam
  | [], g => some g
  | [e], g => (ty e g).map fun (_, g1) => g1
  | _, _ => none
end

/-! ### statements -/
def ghOf (g0 : Gam) (kill : List Nat) (gb : Option Gam) : Gam := match gb with | some gb => meet g0 (killG gb kill) | none => g0
def endOk (gh : Gam) (kill : List Nat) (gb : Option Gam) : Bool := match gb with | some gb => leG gh (killG gb kill) | none => true
def meetS : Option Gam → Option Gam → Option Gam
  | some a, some b => some (meet a b)
  | some a, none => some a
  | none, b => b
/-- the parameters that may be changed are as promised at the end -/
def ioOk (io : List (Option Dp)) (g : Gam) : Bool := (io.zipIdx).all fun p => match p.1 with
  | none => true
  | some k => match gD g p.2 with | some k1 => k.le k1 | none => false
variable (fs : Sig)
mutual
/-- the depths behind a statement; none within: it never gets there -/
def tyS : S → Gam → Option (Option Gam)
  | .asg (.nm i) e, g => (ty sg e g).map fun (k, g1) => some (g1.set i (some k))
  | .asg (.tp is) e, g => if ndB is then (ty sg e g).map fun (k, g1) => some (putG g1 (is.map fun i => (i, k.pred))) else none
  | .par is es, g => if ndB is && is.length == es.length && !hasVin es then (tyo sg es g).map fun (ks, g1) => some (putG g1 (is.zip ks)) else none
  | .sub i k e, g => (ty sg e g).bind fun (ke, g1) => (ty sg k g1).bind fun (_, g2) => (gD g2 i).bind fun kd => if kd.pos && (gD g1 i).isSome then some (some (g2.set i (some (kd.mn ke.succ)))) else none
  | .sub2 i k i2 k2 e e2, g => if muts k ++ muts k2 ++ muts e ++ muts e2 = [] then
      (ty sg e g).bind fun (ke, g1) => (ty sg e2 g1).bind fun (ke2, g2) => (ty sg k g2).bind fun (_, g3) => (gD g3 i).bind fun kd => if kd.pos && (gD g2 i).isSome && (gD (g3.set i (some (kd.mn ke.succ))) i2).isSome then
        (ty sg k2 (g3.set i (some (kd.mn ke.succ)))).bind fun (_, g4) => (gD g4 i2).bind fun kd2 => if kd2.pos then some (some (g4.set i2 (some (kd2.mn ke2.succ)))) else none
      else none
    else none
  | .aug _ _ _, _ => none
  | .augs i k _ e, g => if muts k ++ muts e = [] then (ty sg k g).bind fun (_, g1) => (ty sg e g1).bind fun (_, g2) => (gD g2 i).bind fun kd => if kd.pos && (gD g i).isSome && (gD g1 i).isSome then some (some g2) else none else none
  | .ex e, g => (ty sg e g).map fun (_, g1) => some g1
  | .ret e, g => (ty sg e g).bind fun (k, g1) => if fs.res.le k && ioOk fs.out g1 then some none else none
  | .retN, g => if ioOk fs.out g then some none else none
  | .iff c a b, g => (ty sg c g).bind fun (_, g1) => (tySs a g1).bind fun ga => (tySs b g1).map fun gb => meetS ga gb
  | .whl c b kill, g =>
      let g0 := killG g kill
      (ty sg c g0).bind fun (_, gc) => (tySs b gc).bind fun gb =>
        (ty sg c (ghOf g0 kill gb)).bind fun (_, gc') => (tySs b gc').bind fun gb' =>
          if endOk (ghOf g0 kill gb) kill gb' then some (some gc') else none
  | .forr t k es b kill, g => (tyo sg es g).bind fun (ks, g1) => (tgDp t k ks).bind fun ts =>
      if (vinsOf es).any (fun i => i ∈ chgs b ++ tgs t) then none else
      let g0 := killG g1 kill
      (tySs b (putG g0 ts)).bind fun gb =>
        (tySs b (putG (ghOf g0 kill gb) ts)).bind fun gb' => if (vinsOf es).all (fun i => (gD (ghOf g0 kill gb) i).isSome) && endOk (ghOf g0 kill gb) kill gb' then some (some (ghOf g0 kill gb)) else none
  | .raise, _ => some none
  | .pass, g => some (some g)
  | .frm s, g => (tyS s g).map fun o => o.map fun g1 => frame g g1 (chg s)
def tySs : List S → Gam → Option (Option Gam)
  | [], g => some (some g)
  | s :: ss, g => (tyS s g).bind fun o => match o with
    | some g1 => tySs ss g1
    | none => some none
end
/-- a def keeps its signature -/
def fnOk (fs : Sig) (F : Fn) : Bool := fs.io.length == F.ps && decide (F.ps ≤ F.n) && fs.out.length == F.ps &&
  (fs.out.zipIdx).all (fun p => match p.1 with | some _ => !(p.2 ∈ chgP F.body) | none => true) &&
  (match tySs sg fs F.body ((fs.io.map fun k => some (k.getD (.fin 0))) ++ List.replicate (F.n - F.ps) none) with
  | some (some g) => ioOk fs.out g
  | some none => true
  | none => false)
where
  /-- slots that are given another object -/
  chgP : List S → List Nat := fun ss => asgs ss
  asgs : List S → List Nat
    | [] => []
    | s :: ss => asg s ++ asgs ss
  asg : S → List Nat
    | .asg t _ => tgs t
    | .par is _ => is
    | .aug i _ _ => [i]
    | .iff _ a b => asgs a ++ asgs b
    | .whl _ b _ => asgs b
    | .forr t _ _ b _ => tgs t ++ asgs b
    | .frm s => asg s
    | _ => []
end
end OH

namespace OH
open PySem L2

inductive T where
  | non | bl (b : Bool) | int (i : Int) | str (s : Str)
  | lst (a : Addr) (ts : List T) | tup (a : Addr) (ts : List T) | dct (a : Addr)
  /-- a list that is only read -/
  | fz (a : Addr) (ts : List T)
  /-- a list as it stands, its items not looked at -/
  | raw (a : Addr) (vs : List V)
  /-- a tuple (or a list that is only read) as it stands -/
  | rw (a : Addr) (tp : Bool) (vs : List V)
  deriving Inhabited
def T.val : T → V
  | .non => .non | .bl b => .bl b | .int i => .int i | .str s => .str s
  | .lst a _ | .tup a _ | .dct a | .fz a _ | .raw a _ | .rw a _ _ => .ref a
abbrev vals (ts : List T) : List V := ts.map T.val
mutual
def T.dat : T → D
  | .non => .non | .bl b => .bl b | .int i => .int i | .str s => .str s
  | .lst _ ts => .lst (T.dats ts)
  | .tup _ ts => .tup (T.dats ts)
  | .fz _ ts => .fzl (T.dats ts)
  | .dct _ => .dct
  | .raw _ vs => .rawl vs.length
  | .rw _ _ _ => .oth
def T.dats : List T → List D
  | [] => []
  | t :: ts => T.dat t :: T.dats ts
end
theorem dats_map : ∀ ts : List T, T.dats ts = ts.map T.dat
  | [] => rfl
  | t :: ts => by unfold T.dats; rw [dats_map ts]; rfl
/-- a list that is only read stands -/
def Fz (K : PySem.W.Frag) (H : Hp) (a : Addr) (xs : List V) : Prop :=
  (∃ o, H a = some (.frz o (.lst xs))) ∨
    ∃ (o : Obj) (its : Array Value) (n : Nat), K.lookup a = some o ∧ o.cls = .type "list" ∧ o.dict = none ∧ o.data = .seq its n ∧ its.size ≤ sizeLine ∧ Vals xs its.toList
theorem Fz.seq {K : PySem.W.Frag} {H : Hp} {a : Addr} {xs : List V} (h : Fz K H a xs) : SqL K H a xs := by
  rcases h with ⟨o, h⟩ | h
  · exact .inl (.inr ⟨o, h⟩)
  · exact .inr h
section
variable (K : PySem.W.Frag) (H : Hp)
mutual
def T.ok : T → Prop
  | .lst a ts => H a = some (.lst (vals ts)) ∧ T.oks ts
  | .tup a ts => H a = some (.tup (vals ts)) ∧ T.oks ts
  | .fz a ts => Fz K H a (vals ts) ∧ T.oks ts
  | .dct a => H a = some (.dK [])
  | .raw a vs => H a = some (.lst vs)
  | .rw a tp vs => if tp = true then H a = some (.tup vs) else Fz K H a vs
  | _ => True
def T.oks : List T → Prop
  | [] => True
  | t :: ts => T.ok t ∧ T.oks ts
end
end
theorem oks_iff {K : PySem.W.Frag} {H : Hp} : ∀ {ts : List T}, T.oks K H ts ↔ ∀ t ∈ ts, T.ok K H t
  | [] => by simp [T.oks]
  | t :: ts => by simp [T.oks, oks_iff (ts := ts)]
mutual
/-- the lists' addresses -/
def T.la : T → List Addr
  | .lst a ts => a :: T.las ts
  | .tup _ ts => T.las ts
  | .fz _ ts => T.las ts
  | .raw a _ => [a]
  | _ => []
def T.las : List T → List Addr
  | [] => []
  | t :: ts => T.la t ++ T.las ts
end
mutual
/-- the lists' addresses down to a depth -/
def T.own : T → Dp → List Addr
  | .lst a ts, k => if k.pos then a :: T.owns ts k.pred else []
  | .tup _ ts, k => if k.pos then T.owns ts k.pred else []
  | .fz _ ts, k => if k.pos then T.owns ts k.pred else []
  | .raw a _, k => if k.pos then [a] else []
  | _, _ => []
def T.owns : List T → Dp → List Addr
  | [], _ => []
  | t :: ts, k => T.own t k ++ T.owns ts k
end
theorem las_flat : ∀ ts : List T, T.las ts = ts.flatMap T.la
  | [] => rfl
  | t :: ts => by unfold T.las; rw [las_flat ts, List.flatMap_cons]
theorem owns_flat : ∀ (ts : List T) (k : Dp), T.owns ts k = ts.flatMap fun t => T.own t k
  | [], _ => rfl
  | t :: ts, k => by unfold T.owns; rw [owns_flat ts k, List.flatMap_cons]

namespace Dp
theorem le_refl (k : Dp) : k.le k = true := by cases k <;> simp [le]
theorem le_pos {j k : Dp} (h : j.le k = true) (p : j.pos = true) : k.pos = true := by
  cases j with
  | om => cases k <;> simp_all [le, pos]
  | fin a =>
    cases k with
    | om => rfl
    | fin b => cases a <;> cases b <;> simp_all [le, pos]
theorem le_pred {j k : Dp} (h : j.le k = true) : j.pred.le k.pred = true := by
  cases j with
  | om => cases k <;> simp_all [le, pred]
  | fin a =>
    cases k with
    | om => cases a <;> rfl
    | fin b => cases a <;> cases b <;> simp_all [le, pred]
theorem le_trans {i j k : Dp} (h : i.le j = true) (h2 : j.le k = true) : i.le k = true := by
  cases i <;> cases j <;> cases k <;> simp_all [le]; omega
theorem mn_le_l (j k : Dp) : (j.mn k).le j = true := by cases j <;> cases k <;> simp [le, mn] <;> omega
theorem mn_le_r (j k : Dp) : (j.mn k).le k = true := by cases j <;> cases k <;> simp [le, mn] <;> omega
theorem zero_le (k : Dp) : (fin 0).le k = true := by cases k <;> simp [le]
theorem pred_succ (k : Dp) : k.succ.pred = k := by cases k <;> rfl
theorem succ_pos (k : Dp) : k.succ.pos = true := by cases k <;> rfl
theorem pred_zero : (fin 0).pred = fin 0 := rfl
theorem zero_pos : (fin 0).pos = false := rfl
theorem not_pos {k : Dp} (h : k.pos = false) : k = fin 0 := by
  cases k with
  | om => simp [pos] at h
  | fin a => cases a <;> simp_all [pos]
end Dp
mutual
theorem own_zero : ∀ (t : T), T.own t (.fin 0) = []
  | .lst a ts => by simp [T.own, Dp.pos]
  | .tup a ts => by simp [T.own, Dp.pos]
  | .raw a vs => by simp [T.own, Dp.pos]
  | .fz a ts => by simp [T.own, Dp.pos]
  | .dct _ | .rw _ _ _ | .non | .bl _ | .int _ | .str _ => by simp [T.own]
theorem owns_zero : ∀ (ts : List T), T.owns ts (.fin 0) = []
  | [] => rfl
  | t :: ts => by simp [T.owns, own_zero t, owns_zero ts]
end
mutual
theorem own_mono {j k : Dp} (h : j.le k = true) : ∀ (t : T) (a : Addr), a ∈ T.own t j → a ∈ T.own t k
  | .lst b ts, a, m => by
    unfold T.own at m ⊢
    split at m
    · rename_i p
      rw [if_pos (Dp.le_pos h p)]
      rcases List.mem_cons.mp m with e | m
      · exact List.mem_cons.mpr (.inl e)
      · exact List.mem_cons_of_mem _ (owns_mono (Dp.le_pred h) ts a m)
    · simp at m
  | .tup b ts, a, m => by
    unfold T.own at m ⊢
    split at m
    · rename_i p
      rw [if_pos (Dp.le_pos h p)]
      exact owns_mono (Dp.le_pred h) ts a m
    · simp at m
  | .fz b ts, a, m => by
    unfold T.own at m ⊢
    split at m
    · rename_i p
      rw [if_pos (Dp.le_pos h p)]
      exact owns_mono (Dp.le_pred h) ts a m
    · simp at m
  | .raw b vs, a, m => by
    unfold T.own at m ⊢
    split at m
    · rename_i p
      rw [if_pos (Dp.le_pos h p)]; exact m
    · simp at m
  | .dct _, a, m | .rw _ _ _, a, m | .non, a, m | .bl _, a, m | .int _, a, m | .str _, a, m => by simp [T.own] at m
theorem owns_mono {j k : Dp} (h : j.le k = true) : ∀ (ts : List T) (a : Addr), a ∈ T.owns ts j → a ∈ T.owns ts k
  | [], a, m => by simp [T.owns] at m
  | t :: ts, a, m => by
    unfold T.owns at m ⊢
    rcases List.mem_append.mp m with m | m
    · exact List.mem_append_left _ (own_mono h t a m)
    · exact List.mem_append_right _ (owns_mono h ts a m)
end
mutual
theorem own_la : ∀ (t : T) (k : Dp) (a : Addr), a ∈ T.own t k → a ∈ T.la t
  | .lst b ts, k, a, m => by
    unfold T.own at m; unfold T.la
    split at m
    · rcases List.mem_cons.mp m with e | m
      · exact List.mem_cons.mpr (.inl e)
      · exact List.mem_cons_of_mem _ (owns_la ts _ a m)
    · simp at m
  | .tup b ts, k, a, m => by
    unfold T.own at m; unfold T.la
    split at m
    · exact owns_la ts _ a m
    · simp at m
  | .fz b ts, k, a, m => by
    unfold T.own at m; unfold T.la
    split at m
    · exact owns_la ts _ a m
    · simp at m
  | .raw b vs, k, a, m => by
    unfold T.own at m; unfold T.la
    split at m
    · exact m
    · simp at m
  | .dct _, _, a, m | .rw _ _ _, _, a, m | .non, _, a, m | .bl _, _, a, m | .int _, _, a, m | .str _, _, a, m => by simp [T.own] at m
theorem owns_la : ∀ (ts : List T) (k : Dp) (a : Addr), a ∈ T.owns ts k → a ∈ T.las ts
  | [], _, a, m => by simp [T.owns] at m
  | t :: ts, k, a, m => by
    unfold T.owns at m; unfold T.las
    rcases List.mem_append.mp m with m | m
    · exact List.mem_append_left _ (own_la t k a m)
    · exact List.mem_append_right _ (owns_la ts k a m)
end
mutual
theorem ok_la {K : PySem.W.Frag} {H : Hp} : ∀ (t : T) (a : Addr), T.ok K H t → a ∈ T.la t → ∃ xs, H a = some (.lst xs)
  | .lst b ts, a, h, m => by
    unfold T.ok at h; unfold T.la at m
    rcases List.mem_cons.mp m with e | m
    · rw [e]; exact ⟨_, h.1⟩
    · exact oks_la ts a h.2 m
  | .tup b ts, a, h, m => by
    unfold T.ok at h; unfold T.la at m
    exact oks_la ts a h.2 m
  | .fz b ts, a, h, m => by
    unfold T.ok at h; unfold T.la at m
    exact oks_la ts a h.2 m
  | .raw b vs, a, h, m => by
    unfold T.ok at h; unfold T.la at m
    rw [List.mem_singleton.mp m]; exact ⟨_, h⟩
  | .dct _, a, h, m | .rw _ _ _, a, h, m | .non, a, h, m | .bl _, a, h, m | .int _, a, h, m | .str _, a, h, m => by simp [T.la] at m
theorem oks_la {K : PySem.W.Frag} {H : Hp} : ∀ (ts : List T) (a : Addr), T.oks K H ts → a ∈ T.las ts → ∃ xs, H a = some (.lst xs)
  | [], a, h, m => by simp [T.las] at m
  | t :: ts, a, h, m => by
    unfold T.oks at h; unfold T.las at m
    rcases List.mem_append.mp m with m | m
    · exact ok_la t a h.1 m
    · exact oks_la ts a h.2 m
end
mutual
/-- a tree still stands if its lists stand, and what is no list does -/
theorem ok_keep {K : PySem.W.Frag} {H H' : Hp} (hn : ∀ a o, H a = some o → (∀ xs, o ≠ .lst xs) → H' a = some o) : ∀ (t : T), (∀ a ∈ T.la t, H' a = H a) → T.ok K H t → T.ok K H' t
  | .lst b ts, hl, h => by
    unfold T.ok at h ⊢
    exact ⟨by rw [hl b (by simp [T.la])]; exact h.1, oks_keep hn ts (fun a m => hl a (by simp [T.la, m])) h.2⟩
  | .tup b ts, hl, h => by
    unfold T.ok at h ⊢
    exact ⟨hn _ _ h.1 (fun _ z => nomatch z), oks_keep hn ts (fun a m => hl a (by simp [T.la, m])) h.2⟩
  | .fz b ts, hl, h => by
    unfold T.ok at h ⊢
    refine ⟨?_, oks_keep hn ts (fun a m => hl a (by simp [T.la, m])) h.2⟩
    rcases h.1 with ⟨o, e⟩ | e
    · exact .inl ⟨o, hn _ _ e (fun _ z => nomatch z)⟩
    · exact .inr e
  | .raw b vs, hl, h => by
    unfold T.ok at h ⊢
    rw [hl b (by simp [T.la])]; exact h
  | .dct b, hl, h => by
    unfold T.ok at h ⊢
    exact hn _ _ h (fun _ z => nomatch z)
  | .rw b tp vs, hl, h => by
    unfold T.ok at h ⊢
    cases tp with
    | true => exact hn _ _ h (fun _ z => nomatch z)
    | false =>
      rcases h with ⟨o, e⟩ | e
      · exact .inl ⟨o, hn _ _ e (fun _ z => nomatch z)⟩
      · exact .inr e
  | .non, hl, h | .bl _, hl, h | .int _, hl, h | .str _, hl, h => by simp [T.ok]
theorem oks_keep {K : PySem.W.Frag} {H H' : Hp} (hn : ∀ a o, H a = some o → (∀ xs, o ≠ .lst xs) → H' a = some o) : ∀ (ts : List T), (∀ a ∈ T.las ts, H' a = H a) → T.oks K H ts → T.oks K H' ts
  | [], _, _ => by simp [T.oks]
  | t :: ts, hl, h => by
    unfold T.oks at h ⊢
    exact ⟨ok_keep hn t (fun a m => hl a (by simp [T.las, m])) h.1, oks_keep hn ts (fun a m => hl a (by simp [T.las, m])) h.2⟩
end

/-! ### what is held -/
abbrev Hold := List (T × Dp)
def hOwn (hs : Hold) : List Addr := hs.flatMap fun p => T.own p.1 p.2
def hLa (hs : Hold) : List Addr := hs.flatMap fun p => T.la p.1
theorem hOwn_app (a b : Hold) : hOwn (a ++ b) = hOwn a ++ hOwn b := List.flatMap_append
theorem hLa_app (a b : Hold) : hLa (a ++ b) = hLa a ++ hLa b := List.flatMap_append
theorem hOwn_cons (p : T × Dp) (b : Hold) : hOwn (p :: b) = T.own p.1 p.2 ++ hOwn b := rfl
theorem hLa_cons (p : T × Dp) (b : Hold) : hLa (p :: b) = T.la p.1 ++ hLa b := rfl
theorem hOwn_la {hs : Hold} {a : Addr} (m : a ∈ hOwn hs) : a ∈ hLa hs := by
  obtain ⟨p, hp, m⟩ := List.mem_flatMap.mp m
  exact List.mem_flatMap.mpr ⟨p, hp, own_la _ _ _ m⟩

/-- H0: the heap at the entry; IO: the lists from there that may be changed -/
structure Good (K : PySem.W.Frag) (H0 : Hp) (IO SR : List Addr) (H : Hp) (hs : Hold) : Prop where
  ok : ∀ p ∈ hs, T.ok K H p.1
  sep : ∀ a ∈ hOwn hs, (hLa hs).count a = 1
  wr : ∀ a ∈ hOwn hs, H0 a = none ∨ a ∈ IO
  io : ∀ a ∈ IO, (∃ xs, H0 a = some (.lst xs)) ∧ ∃ xs, H a = some (.lst xs)
  fr : ∀ a, H0 a ≠ none → a ∉ IO → H a = H0 a
  src : ∀ a ∈ hLa hs, H0 a = none ∨ a ∈ SR
section
variable {K : PySem.W.Frag} {H0 H H' : Hp} {IO SR : List Addr} {hs hs' R : Hold} {t : T} {k j : Dp}
theorem Good.alive (g : Good K H0 IO SR H hs) {a : Addr} (h : H0 a ≠ none) : H a ≠ none := by
  by_cases m : a ∈ IO
  · obtain ⟨_, xs, e⟩ := g.io a m
    rw [e]; simp
  · rw [g.fr a h m]; exact h
theorem Good.la (g : Good K H0 IO SR H hs) {a : Addr} (m : a ∈ hLa hs) : ∃ xs, H a = some (.lst xs) := by
  obtain ⟨p, hp, m⟩ := List.mem_flatMap.mp m
  exact ok_la _ a (g.ok p hp) m
theorem Good.perm (g : Good K H0 IO SR H hs) (p : hs.Perm hs') : Good K H0 IO SR H hs' := by
  have p1 : (hOwn hs).Perm (hOwn hs') := p.flatMap_right _
  have p2 : (hLa hs).Perm (hLa hs') := p.flatMap_right _
  exact ⟨fun q hq => g.ok q (p.mem_iff.mpr hq), fun a m => by rw [← p2.count_eq]; exact g.sep a (p1.mem_iff.mpr m), fun a m => g.wr a (p1.mem_iff.mpr m), g.io, g.fr, fun a m => g.src a (p2.mem_iff.mpr m)⟩
/-- the master rule: some of what is held is given for other things, the heap has changed -/
theorem Good.exch2 {old new : Hold} (g : Good K H0 IO SR H (old ++ R))
    (ok : ∀ p ∈ new, T.ok K H' p.1)
    (keep : ∀ p ∈ R, T.ok K H' p.1)
    (own : ∀ a ∈ hOwn new, (a ∈ hOwn old ∨ H a = none) ∧ (hLa new).count a = 1)
    (mem : ∀ a, H a ≠ none → a ∈ hLa new → a ∈ hLa old)
    (io : ∀ a ∈ IO, ∃ xs, H' a = some (.lst xs))
    (fr : ∀ a, H0 a ≠ none → a ∉ IO → H' a = H a) : Good K H0 IO SR H' (new ++ R) := by
  have cnt1 : ∀ a ∈ hOwn (old ++ R), (hLa old).count a + (hLa R).count a = 1 := fun a m => by
    have q := g.sep a m
    rw [hLa_app, List.count_append] at q
    exact q
  have noR : ∀ a, H a = none → (hLa R).count a = 0 := fun a e => by
    refine List.count_eq_zero_of_not_mem fun m => ?_
    obtain ⟨xs, q⟩ := g.la (a := a) (by rw [hLa_app]; exact List.mem_append_right _ m)
    rw [e] at q; cases q
  refine ⟨fun p hp => ?_, fun a m => ?_, fun a m => ?_, fun a m => ⟨(g.io a m).1, io a m⟩, fun a h m => (fr a h m).trans (g.fr a h m), fun a m => ?_⟩
  · rcases List.mem_append.mp hp with hp | hp
    · exact ok p hp
    · exact keep p hp
  · rw [hOwn_app] at m
    rw [hLa_app, List.count_append]
    rcases List.mem_append.mp m with m | m
    · obtain ⟨mo | e, c⟩ := own a m
      · have c1 := cnt1 a (by rw [hOwn_app]; exact List.mem_append_left _ mo)
        have c2 : 0 < (hLa old).count a := List.count_pos_iff.mpr (hOwn_la mo)
        omega
      · rw [c, noR a e]
    · have c1 := cnt1 a (by rw [hOwn_app]; exact List.mem_append_right _ m)
      have c2 : 0 < (hLa R).count a := List.count_pos_iff.mpr (hOwn_la m)
      obtain ⟨xs, q⟩ := g.la (a := a) (by rw [hLa_app]; exact List.mem_append_right _ (hOwn_la m))
      have c4 : (hLa new).count a = 0 := List.count_eq_zero_of_not_mem fun mn => by
        have := List.count_pos_iff.mpr (mem a (by rw [q]; simp) mn)
        omega
      omega
  · rw [hOwn_app] at m
    rcases List.mem_append.mp m with m | m
    · obtain ⟨mo | e, _⟩ := own a m
      · exact g.wr a (by rw [hOwn_app]; exact List.mem_append_left _ mo)
      · by_cases h0 : H0 a = none
        · exact .inl h0
        · exact absurd e (g.alive h0)
    · exact g.wr a (by rw [hOwn_app]; exact List.mem_append_right _ m)
  · rw [hLa_app] at m
    rcases List.mem_append.mp m with m | m
    · by_cases h : H a = none
      · by_cases h0 : H0 a = none
        · exact .inl h0
        · exact absurd h (g.alive h0)
      · exact g.src a (by rw [hLa_app]; exact List.mem_append_left _ (mem a h m))
    · exact g.src a (by rw [hLa_app]; exact List.mem_append_right _ m)
theorem Good.exch {old new : Hold} (g : Good K H0 IO SR H (old ++ R))
    (ok : ∀ p ∈ new, T.ok K H' p.1)
    (keep : ∀ p ∈ R, T.ok K H' p.1)
    (own : ∀ a ∈ hOwn new, a ∈ hOwn old ∨ (H a = none ∧ (hLa new).count a = 1))
    (cnt : ∀ a, H a ≠ none → (hLa new).count a ≤ (hLa old).count a)
    (io : ∀ a ∈ IO, ∃ xs, H' a = some (.lst xs))
    (fr : ∀ a, H0 a ≠ none → a ∉ IO → H' a = H a) : Good K H0 IO SR H' (new ++ R) := by
  refine g.exch2 ok keep (fun a m => ?_) (fun a h m => ?_) io fr
  · rcases own a m with mo | ⟨e, c⟩
    · refine ⟨.inl mo, ?_⟩
      have c1 := g.sep a (by rw [hOwn_app]; exact List.mem_append_left _ mo)
      rw [hLa_app, List.count_append] at c1
      have c2 : 0 < (hLa old).count a := List.count_pos_iff.mpr (hOwn_la mo)
      have c3 : 0 < (hLa new).count a := List.count_pos_iff.mpr (hOwn_la m)
      obtain ⟨xs, q⟩ := g.la (a := a) (by rw [hLa_app]; exact List.mem_append_left _ (hOwn_la mo))
      have c4 := cnt a (by rw [q]; simp)
      omega
    · exact ⟨.inr e, c⟩
  · have c := cnt a h
    have c3 : 0 < (hLa new).count a := List.count_pos_iff.mpr m
    exact List.count_pos_iff.mp (by omega)
/-- the same heap -/
theorem Good.same {old new : Hold} (g : Good K H0 IO SR H (old ++ R)) (ok : ∀ p ∈ new, T.ok K H p.1) (own : ∀ a ∈ hOwn new, a ∈ hOwn old) (cnt : ∀ a, (hLa new).count a ≤ (hLa old).count a) : Good K H0 IO SR H (new ++ R) :=
  g.exch ok (fun p hp => g.ok p (List.mem_append_right _ hp)) (fun a m => .inl (own a m)) (fun a _ => cnt a) (fun a m => (g.io a m).2) fun _ _ _ => rfl
theorem Good.weak (g : Good K H0 IO SR H ((t, k) :: R)) (h : j.le k = true) : Good K H0 IO SR H ((t, j) :: R) :=
  Good.same (old := [(t, k)]) (new := [(t, j)]) g (fun p hp => by rw [List.mem_singleton.mp hp]; exact g.ok (t, k) List.mem_cons_self) (fun a m => by simpa [hOwn] using own_mono h t a (by simpa [hOwn] using m)) fun a => Nat.le_refl _
theorem Good.drop {p : T × Dp} (g : Good K H0 IO SR H (p :: R)) : Good K H0 IO SR H R :=
  Good.same (old := [p]) (new := []) g (fun _ h => nomatch h) (fun _ h => nomatch h) fun a => by simp [hLa]
theorem Good.dropL : ∀ {old : Hold}, Good K H0 IO SR H (old ++ R) → Good K H0 IO SR H R
  | [], g => g
  | _ :: _, g => Good.dropL g.drop
/-- a thing without lists -/
theorem Good.plain (g : Good K H0 IO SR H R) (h : T.ok K H t) (hl : T.la t = []) : Good K H0 IO SR H ((t, k) :: R) :=
  Good.same (old := []) (new := [(t, k)]) g (fun p hp => by rw [List.mem_singleton.mp hp]; exact h) (fun a m => by
    have m' : a ∈ T.own t k := by simpa [hOwn] using m
    have := own_la t k a m'
    rw [hl] at this; cases this) fun a => by simp [hLa, hl]
/-- one more look at it: no longer one's own -/
theorem Good.look (g : Good K H0 IO SR H ((t, k) :: R)) : Good K H0 IO SR H ((t, .fin 0) :: (t, .fin 0) :: R) := by
  have g0 := g.weak (Dp.zero_le k)
  refine ⟨fun p hp => ?_, fun a m => ?_, fun a m => ?_, g.io, g.fr, fun a m => g.src a ?_⟩
  · rcases List.mem_cons.mp hp with e | hp
    · rw [e]; exact g.ok (t, k) List.mem_cons_self
    · exact g0.ok p hp
  · have m' : a ∈ hOwn R := by simpa [hOwn, own_zero] using m
    have m2 : a ∈ hOwn ((t, k) :: R) := List.mem_append_right _ m'
    have c := g.sep a m2
    rw [hLa_cons, List.count_append] at c
    have c2 : 0 < (hLa R).count a := List.count_pos_iff.mpr (hOwn_la m')
    rw [hLa_cons, hLa_cons, List.count_append, List.count_append]
    show (T.la t).count a + ((T.la t).count a + (hLa R).count a) = 1
    have c' : (T.la t).count a + (hLa R).count a = 1 := c
    omega
  · have m' : a ∈ hOwn R := by simpa [hOwn, own_zero] using m
    exact g.wr a (List.mem_append_right _ m')
  · rw [hLa_cons, hLa_cons] at m
    rw [hLa_cons]
    rcases List.mem_append.mp m with m | m
    · exact List.mem_append_left _ m
    · exact m

theorem ok_new {p : Addr} {o : HO} (hp : H p = none) (h : T.ok K H t) : T.ok K (upd H p o) t :=
  ok_keep (fun a u e _ => by rw [upd_ne (ne_of_none e hp)]; exact e) t (fun a m => by
    obtain ⟨xs, e⟩ := ok_la t a h m
    exact upd_ne (ne_of_none e hp)) h
theorem ok_upd {p : Addr} {o : HO} {xs : List V} (hp : H p = some (.lst xs)) (hn : p ∉ T.la t) (h : T.ok K H t) : T.ok K (upd H p o) t :=
  ok_keep (fun a u e nl => by
    rw [upd_ne]
    · exact e
    · rintro rfl
      rw [hp] at e; cases e
      exact nl _ rfl) t (fun a m => upd_ne (fun e => hn (e ▸ m))) h
theorem las_none {ts : List T} {a : Addr} (h : H a = none) (ok : ∀ t ∈ ts, T.ok K H t) : (T.las ts).count a = 0 := by
  refine List.count_eq_zero_of_not_mem fun m => ?_
  obtain ⟨xs, e⟩ := oks_la ts a (oks_iff.mpr ok) m
  rw [h] at e; cases e
theorem upd_lst {p : Addr} {xs : List V} (hp : H p = none ∨ ∃ ys, H p = some (.lst ys)) : ∀ a, (∃ ys, H a = some (.lst ys)) → ∃ ys, upd H p (.lst xs) a = some (.lst ys) := fun a ⟨ys, e⟩ => by
  by_cases h : a = p
  · rw [h]; exact ⟨xs, upd_same⟩
  · rw [upd_ne h]; exact ⟨ys, e⟩
/-- a new list of things that are held -/
theorem Good.newL {old : Hold} {ts : List T} {p : Addr} (g : Good K H0 IO SR H (old ++ R)) (hp : H p = none) (ok : ∀ t ∈ ts, T.ok K H t)
    (own : ∀ a ∈ T.owns ts k, a ∈ hOwn old) (cnt : ∀ a, (T.las ts).count a ≤ (hLa old).count a) : Good K H0 IO SR (upd H p (.lst (vals ts))) ((.lst p ts, k.succ) :: R) := by
  have e : ∀ (a : Addr), hOwn [((.lst p ts : T), k.succ)] = p :: T.owns ts k := fun a => by simp [hOwn, T.own, Dp.succ_pos, Dp.pred_succ]
  have e2 : hLa [((.lst p ts : T), k.succ)] = p :: T.las ts := by simp [hLa, T.la]
  refine g.exch (new := [(.lst p ts, k.succ)]) (fun q hq => ?_) (fun q hq => ok_new hp (g.ok q (List.mem_append_right _ hq))) (fun a m => ?_) (fun a h => ?_) (fun a m => upd_lst (.inl hp) a (g.io a m).2) fun a h m => ?_
  · rw [List.mem_singleton.mp hq]
    unfold T.ok
    exact ⟨upd_same, oks_iff.mpr fun t ht => ok_new hp (ok t ht)⟩
  · rw [e a] at m
    rcases List.mem_cons.mp m with rfl | m
    · exact .inr ⟨hp, by rw [e2, List.count_cons_self, las_none hp ok]⟩
    · exact .inl (own a m)
  · rw [e2, List.count_cons_of_ne (by rintro rfl; exact h hp)]
    exact cnt a
  · exact upd_ne (by rintro rfl; exact (g.alive h) hp)
theorem Good.newT {old : Hold} {ts : List T} {p : Addr} (g : Good K H0 IO SR H (old ++ R)) (hp : H p = none) (ok : ∀ t ∈ ts, T.ok K H t)
    (own : ∀ a ∈ T.owns ts k, a ∈ hOwn old) (cnt : ∀ a, (T.las ts).count a ≤ (hLa old).count a) : Good K H0 IO SR (upd H p (.tup (vals ts))) ((.tup p ts, k.succ) :: R) := by
  have e : hOwn [((.tup p ts : T), k.succ)] = T.owns ts k := by simp [hOwn, T.own, Dp.succ_pos, Dp.pred_succ]
  have e2 : hLa [((.tup p ts : T), k.succ)] = T.las ts := by simp [hLa, T.la]
  refine g.exch (new := [(.tup p ts, k.succ)]) (fun q hq => ?_) (fun q hq => ok_new hp (g.ok q (List.mem_append_right _ hq))) (fun a m => ?_) (fun a h => ?_) (fun a m => ?_) fun a h m => ?_
  · rw [List.mem_singleton.mp hq]
    unfold T.ok
    exact ⟨upd_same, oks_iff.mpr fun t ht => ok_new hp (ok t ht)⟩
  · rw [e] at m; exact .inl (own a m)
  · rw [e2]; exact cnt a
  · obtain ⟨xs, q⟩ := (g.io a m).2
    rw [upd_ne (ne_of_none q hp)]; exact ⟨xs, q⟩
  · exact upd_ne (by rintro rfl; exact (g.alive h) hp)
theorem Good.newD {p : Addr} (g : Good K H0 IO SR H R) (hp : H p = none) : Good K H0 IO SR (upd H p (.dK [])) ((.dct p, k) :: R) := by
  refine Good.exch (old := []) (new := [(.dct p, k)]) g (fun q hq => ?_) (fun q hq => ok_new hp (g.ok q hq)) (fun a m => ?_) (fun a h => ?_) (fun a m => ?_) fun a h m => ?_
  · rw [List.mem_singleton.mp hq]
    unfold T.ok
    exact upd_same
  · simp [hOwn, T.own] at m
  · simp [hLa, T.la]
  · obtain ⟨xs, q⟩ := (g.io a m).2
    rw [upd_ne (ne_of_none q hp)]; exact ⟨xs, q⟩
  · exact upd_ne (by rintro rfl; exact (g.alive h) hp)
/-- a list of one's own is changed: its items are from it and from what is held; more comes out of it -/
theorem Good.mut {old more : Hold} {ts ts' : List T} {a : Addr} (g : Good K H0 IO SR H ((.lst a ts, k) :: (old ++ R))) (hk : k.pos = true)
    (ok : ∀ t ∈ ts', T.ok K H t) (okm : ∀ p ∈ more, T.ok K H p.1)
    (own : ∀ b ∈ T.owns ts' j.pred ++ hOwn more, b ∈ T.owns ts k.pred ∨ b ∈ hOwn old)
    (cnt : ∀ b, (T.las ts').count b + (hLa more).count b ≤ (T.las ts).count b + (hLa old).count b) : Good K H0 IO SR (upd H a (.lst (vals ts'))) ((.lst a ts', j) :: (more ++ R)) := by
  have ha : H a = some (.lst (vals ts)) := by
    have := g.ok (.lst a ts, k) List.mem_cons_self
    unfold T.ok at this
    exact this.1
  have ho : hOwn ((.lst a ts, k) :: old) = a :: (T.owns ts k.pred ++ hOwn old) := by simp [hOwn, T.own, hk]
  have hl : hLa ((.lst a ts, k) :: old) = a :: (T.las ts ++ hLa old) := by simp [hLa, T.la]
  have ca : (T.las ts).count a + (hLa old).count a + (hLa R).count a = 0 := by
    have c := g.sep a (by rw [hOwn_cons]; simp [T.own, hk])
    rw [hLa_cons, hLa_app] at c
    have c' : (T.la (.lst a ts) ++ (hLa old ++ hLa R)).count a = 1 := c
    rw [List.count_append, List.count_append] at c'
    unfold T.la at c'
    rw [List.count_cons_self] at c'
    omega
  have nin : ∀ {l : List Addr}, l.count a = 0 → a ∉ l := fun {l} h => by rwa [List.count_eq_zero] at h
  have g' : Good K H0 IO SR H (((.lst a ts, k) :: old) ++ R) := g
  have okU : ∀ t, T.ok K H t → a ∉ T.la t → T.ok K (upd H a (.lst (vals ts'))) t := fun t h n => ok_upd ha n h
  refine g'.exch (new := (.lst a ts', j) :: more) (fun q hq => ?_) (fun q hq => okU _ (g'.ok q (List.mem_append_right _ hq)) fun m => ?_) (fun b m => ?_) (fun b h => ?_) (fun b m => upd_lst (.inr ⟨_, ha⟩) b (g.io b m).2) fun b h m => upd_ne ?_
  · have cb := cnt a
    rcases List.mem_cons.mp hq with e | hq
    · subst e
      unfold T.ok
      refine ⟨upd_same, oks_iff.mpr fun t ht => okU t (ok t ht) fun m => ?_⟩
      exact nin (l := T.las ts') (by omega) (by rw [las_flat]; exact List.mem_flatMap.mpr ⟨t, ht, m⟩)
    · refine okU _ (okm q hq) fun m => nin (l := hLa more) (by omega) (List.mem_flatMap.mpr ⟨q, hq, m⟩)
  · exact nin (l := hLa R) (by omega) (List.mem_flatMap.mpr ⟨q, hq, m⟩)
  · rw [ho]
    rw [hOwn_cons] at m
    have m' : b ∈ T.own (.lst a ts') j ++ hOwn more := m
    unfold T.own at m'
    split at m'
    · rcases List.mem_cons.mp m' with e | m'
      · exact .inl (by rw [e]; exact List.mem_cons_self)
      · exact .inl (List.mem_cons_of_mem _ (List.mem_append.mpr (own b m')))
    · exact .inl (List.mem_cons_of_mem _ (List.mem_append.mpr (own b (List.mem_append_right _ (by simpa using m')))))
  · rw [hl, hLa_cons]
    show (T.la (.lst a ts') ++ hLa more).count b ≤ _
    unfold T.la
    rw [List.cons_append, List.count_cons, List.count_cons, List.count_append, List.count_append]
    have := cnt b
    omega
  · rintro rfl
    have hw := g.wr b (by rw [hOwn_cons]; simp [T.own, hk])
    rcases hw with hw | hw
    · exact h hw
    · exact m hw
end
end OH

namespace OH
open PySem PySem.Spec PyProof.Rows L2

/-- a name of a built-in thing, seen from a scope -/
def gl (sc : Scope) (x : Str) : Bool := sc.names.lookup x == some .globalImplicit
def isGl (sc : Scope) (x y : Str) : Bool := x == y && gl sc y

def noCall0 : Expr → Bool | .Call _ [] [] _ => false | _ => true
def isSetE : Expr → Bool | .Set _ _ _ => true | _ => false
def isSliceE : Expr → Bool | .Slice _ _ _ _ => true | _ => false
/-- the operands of an expression with this operator -/
def shape (sc : Scope) (o : Op) (e : Expr) : Option (List Expr) := match o with
  | .add => (match e with | .BinOp a .Add b _ => some [a, b] | _ => none)
  | .sub => (match e with | .BinOp a .Sub b _ => some [a, b] | _ => none)
  | .mul => (match e with | .BinOp a .Mult b _ => some [a, b] | _ => none)
  | .fdiv => (match e with | .BinOp a .FloorDiv b _ => some [a, b] | _ => none)
  | .mod => (match e with | .BinOp a .Mod b _ => some [a, b] | _ => none)
  | .pow => (match e with | .BinOp a .Pow b _ => some [a, b] | _ => none)
  | .neg => (match e with | .UnaryOp .USub a _ => some [a] | _ => none)
  | .eq => (match e with | .Compare a [.Eq] [b] _ => some [a, b] | _ => none)
  | .ne => (match e with | .Compare a [.NotEq] [b] _ => some [a, b] | _ => none)
  | .lt => (match e with | .Compare a [.Lt] [b] _ => some [a, b] | _ => none)
  | .le => (match e with | .Compare a [.LtE] [b] _ => some [a, b] | _ => none)
  | .gt => (match e with | .Compare a [.Gt] [b] _ => some [a, b] | _ => none)
  | .ge => (match e with | .Compare a [.GtE] [b] _ => some [a, b] | _ => none)
  | .isN => (match e with | .Compare a [.Is] [.Constant .none _ _] _ => some [a] | _ => none)
  | .notN => (match e with | .Compare a [.IsNot] [.Constant .none _ _] _ => some [a] | _ => none)
  | .isB b => (match e with | .Compare a [.Is] [.Constant (.bool c) _ _] _ => if b = c then some [a] else none | _ => none)
  | .inn => (match e with | .Compare a [.In] [b] _ => if isSetE b then none else some [a, b] | _ => none)
  | .notin => (match e with | .Compare a [.NotIn] [b] _ => if isSetE b then none else some [a, b] | _ => none)
  | .len => (match e with | .Call (.Name x _) [a] [] _ => if isGl sc x "len" then some [a] else none | _ => none)
  | .srt => (match e with | .Call (.Name x _) [a] [] _ => if isGl sc x "sorted" then some [a] else none | _ => none)
  | .listOf => (match e with | .Call (.Name x _) [a] [] _ => if isGl sc x "list" then some [a] else none | _ => none)
  | .tupOf => (match e with | .Call (.Name x _) [a] [] _ => if isGl sc x "tuple" then some [a] else none | _ => none)
  | .lr1 => (match e with | .Call (.Name x _) [.Call (.Name y _) [a] [] _] [] _ => if isGl sc x "list" && isGl sc y "range" then some [a] else none | _ => none)
  | .lr2 => (match e with | .Call (.Name x _) [.Call (.Name y _) [a, b] [] _] [] _ => if isGl sc x "list" && isGl sc y "range" then some [a, b] else none | _ => none)
  | .all => (match e with | .Call (.Name x _) [a] [] _ => if isGl sc x "all" then some [a] else none | _ => none)
  | .any => (match e with | .Call (.Name x _) [a] [] _ => if isGl sc x "any" then some [a] else none | _ => none)
  | .sum => (match e with | .Call (.Name x _) [a] [] _ => if isGl sc x "sum" then some [a] else none | _ => none)
  | .max2 => (match e with | .Call (.Name x _) [a, b] [] _ => if isGl sc x "max" then some [a, b] else none | _ => none)
  | .min2 => (match e with | .Call (.Name x _) [a, b] [] _ => if isGl sc x "min" then some [a, b] else none | _ => none)
  | .maxL => (match e with | .Call (.Name x _) [a] [] _ => if isGl sc x "max" then some [a] else none | _ => none)
  | .minL => (match e with | .Call (.Name x _) [a] [] _ => if isGl sc x "min" then some [a] else none | _ => none)
  | .toInt => (match e with | .Call (.Name x _) [a] [] _ => if isGl sc x "int" then some [a] else none | _ => none)
  | .toStr => (match e with | .Call (.Name x _) [a] [] _ => if isGl sc x "str" then some [a] else none | _ => none)
  | .repr => (match e with | .Call (.Name x _) [a] [] _ => if isGl sc x "repr" then some [a] else none | _ => none)
  | .isi c => (match e with | .Call (.Name x _) [a, .Name y _] [] _ => if isGl sc x "isinstance" && isGl sc y (Str.ofString c) && tyName c then some [a] else none | _ => none)
  | .isi2 c d => (match e with | .Call (.Name x _) [a, .Tuple [.Name y _, .Name z _] _ _] [] _ => if isGl sc x "isinstance" && isGl sc y (Str.ofString c) && isGl sc z (Str.ofString d) && tyName c && tyName d then some [a] else none | _ => none)
  | .lst => (match e with | .List es _ => some es | _ => none)
  | .tup => (match e with | .Tuple es _ _ => some es | _ => none)
  | .dct => (match e with | .Dict [] [] _ => some [] | _ => none)
  | .sl false false => (match e with | .Subscript a (.Slice none none none _) _ => some [a] | _ => none)
  | .sl true false => (match e with | .Subscript a (.Slice (some l) none none _) _ => some [a, l] | _ => none)
  | .sl false true => (match e with | .Subscript a (.Slice none (some h) none _) _ => some [a, h] | _ => none)
  | .sl true true => (match e with | .Subscript a (.Slice (some l) (some h) none _) _ => some [a, l, h] | _ => none)
  | .rev => (match e with | .Subscript a (.Slice none none (some (.UnaryOp .USub (.Constant (.int 1) _ _) _)) _) _ => some [a] | _ => none)
  | .ix => (match e with | .Subscript a b _ => if isSliceE b then none else some [a, b] | _ => none)
  | .bitlen => (match e with | .Call (.Attribute a m p) [] [] q => if m == "bit_length" && p.endLine == q.line && noCall0 a then some [a] else none | _ => none)
  | .index => (match e with | .Call (.Attribute a m p) [b] [] q => if m == "index" && p.endLine == q.line && noCall0 a then some [a, b] else none | _ => none)
  | .count => (match e with | .Call (.Attribute a m p) [b] [] q => if m == "count" && p.endLine == q.line && noCall0 a then some [a, b] else none | _ => none)
  | _ => none

/-- a thing of a kind -/
def TyD (K : PySem.W.Frag) (H : Hp) (x : V) (c : String) (b : Bool) : Prop := ∃ t : String, TyX K H x (.type t) ∧ PySem.W.kitOne K (.type t) (.type c) = some b

/-- a built-in's method asks for its thing's kind ahead of its arguments -/
def Op.meth : Op → Option String
  | .index | .count => some "list"
  | _ => none

/-- what the operators ask and give, by values -/
def rO (K : PySem.W.Frag) : Op → List V → Hp → VK → Prop
  | .add, [x, y], H, Q => rI0 (fun i j => .int (i + j)) x y H Q ∨ rCat x y H Q ∨ rCatT K x y H Q ∨ ∃ i j, x = .str i ∧ y = .str j ∧ i.length + j.length ≤ sizeLine ∧ Q (.str (i ++ j)) H
  | .sub, [x, y], H, Q => rI0 (fun i j => .int (i - j)) x y H Q
  | .mul, [x, y], H, Q => rI CMul (fun i j => .int (i * j)) x y H Q ∨ rRep x y H Q
  | .fdiv, [x, y], H, Q => rI CDivN (fun i j => .int (i.fdiv j)) x y H Q
  | .mod, [x, y], H, Q => rI (fun _ j => j ≠ 0) (fun i j => .int (i.fmod j)) x y H Q
  | .pow, [x, y], H, Q => rI (fun i j => 0 ≤ j ∧ j ≤ 1000 ∧ i.natAbs < 2 ^ 1000) (fun i j => .int (i ^ j.toNat)) x y H Q
  | .neg, [x], H, Q => rU (fun i => .int (-i)) x H Q
  | .eq, [x, y], H, Q => rEqD K x y H Q
  | .ne, [x, y], H, Q => rNeD K x y H Q
  | .lt, [x, y], H, Q => rI0 (fun i j => .bl (decide (i < j))) x y H Q
  | .le, [x, y], H, Q => rI0 (fun i j => .bl (decide (i ≤ j))) x y H Q
  | .gt, [x, y], H, Q => rI0 (fun i j => .bl (decide (j < i))) x y H Q
  | .ge, [x, y], H, Q => rI0 (fun i j => .bl (decide (j ≤ i))) x y H Q
  | .isN, [x], H, Q => Q (.bl (decide (x = .non))) H
  | .notN, [x], H, Q => Q (.bl (!decide (x = .non))) H
  | .isB b, [x], H, Q => Q (.bl (decide (x = .bl b))) H
  | .inn, [x, y], H, Q => rInD K x y H Q ∨ rIn K false x y H Q
  | .notin, [x, y], H, Q => rNotInD K x y H Q ∨ rIn K true x y H Q
  | .len, vs, H, Q => ∃ p ys, vs = [.ref p] ∧ (SqL K H p ys ∨ SqT K H p ys) ∧ Q (.int ys.length) H
  | .srt, vs, H, Q => rSortedI K vs H Q
  | .listOf, vs, H, Q => ∃ p ys, vs = [.ref p] ∧ (SqL K H p ys ∨ SqT K H p ys) ∧ ∀ l, H l = none → Q (.ref l) (upd H l (.lst ys))
  | .tupOf, vs, H, Q => ∃ p ys, vs = [.ref p] ∧ ((SqL K H p ys ∧ ∀ l, H l = none → Q (.ref l) (upd H l (.tup ys))) ∨ (SqT K H p ys ∧ Q (.ref p) H))
  | .lr1, [x], H, Q => ∃ n, x = .int n ∧ RgOk 0 n ∧ ∀ q, H q = none → Q (.ref q) (upd H q (.lst (rgV 0 n)))
  | .lr2, [x, y], H, Q => ∃ i j, x = .int i ∧ y = .int j ∧ RgOk i j ∧ ∀ q, H q = none → Q (.ref q) (upd H q (.lst (rgV i j)))
  | .all, vs, H, Q => rAll K vs H Q
  | .any, vs, H, Q => rAny K vs H Q
  | .sum, vs, H, Q => rSum K vs H Q
  | .max2, vs, H, Q => ∃ i j, vs = [.int i, .int j] ∧ Q (.int (if j > i then j else i)) H
  | .min2, vs, H, Q => ∃ i j, vs = [.int i, .int j] ∧ Q (.int (if j < i then j else i)) H
  | .maxL, vs, H, Q => rMax K vs H Q
  | .minL, vs, H, Q => rMin K vs H Q
  | .toInt, vs, H, Q => (∃ i, vs = [.int i] ∧ Q (.int i) H) ∨ ∃ k, vs = [.bl k] ∧ Q (.int (if k then 1 else 0)) H
  | .toStr, vs, H, Q => ∃ i, vs = [.int i] ∧ i.natAbs.log2 < 1920 ∧ Q (.str (toString i)) H
  | .repr, vs, H, Q => ∃ x, vs = [x] ∧ ∃ d : PyData, L2.Dp K H x d ∧ PyData.showable d = true ∧ d.shown.length ≤ sizeLine ∧ d.depth ≤ 60 ∧ Q (.str d.shown) H
  | .isi c, [x], H, Q => rIsi K [x, .ty c] H Q
  | .isi2 c d, [x], H, Q => [V.ty c, V.ty d].length ≤ sizeLine ∧ ∀ p, H p = none → rIsiT K [x, .ref p] (upd H p (.tup [.ty c, .ty d])) Q
  | .lst, vs, H, Q => vs.length ≤ sizeLine ∧ ∀ p, H p = none → Q (.ref p) (upd H p (.lst vs))
  | .tup, vs, H, Q => vs.length ≤ sizeLine ∧ ∀ p, H p = none → Q (.ref p) (upd H p (.tup vs))
  | .dct, [], H, Q => ∀ p, H p = none → Q (.ref p) (upd H p (.dK []))
  | .ix, [x, y], H, Q => rIx K x y H Q
  | .sl false false, [x], H, Q => rSlL K x none none H Q
  | .sl true false, [x, y], H, Q => ∃ i, y = .int i ∧ (rSlL K x (some i) none H Q ∨ rSlA K x (some i) none H Q)
  | .sl false true, [x, y], H, Q => ∃ i, y = .int i ∧ (rSlL K x none (some i) H Q ∨ rSlA K x none (some i) H Q)
  | .sl true true, [x, y, z], H, Q => ∃ i j, y = .int i ∧ z = .int j ∧ (rSlL K x (some i) (some j) H Q ∨ rSlA K x (some i) (some j) H Q)
  | .rev, [x], H, Q => ∃ a xs, x = .ref a ∧ SqL K H a xs ∧ ∀ p, H p = none → Q (.ref p) (upd H p (.lst xs.reverse))
  | .bitlen, [x], H, Q => ∃ i, x = .int i ∧ Q (.int (Builtin.Int.intBits i : Nat)) H
  | .index, x :: xs, H, Q => rIndexD K x xs H Q
  | .count, x :: xs, H, Q => rCntI K x xs H Q
  | _, _, _, _ => False

def seqT : List TE → TA
  | [] => tNil
  | t :: ts => tCons t (seqT ts)
/-- an operator's reading -/
def tOpN (K : PySem.W.Frag) (o : Op) (ts : List TE) : TE := match o, ts with
  | .index, t :: ts => fun σ H Q => t σ H fun x H1 => tyV K "list" x H1 ∧ seqT ts σ H1 fun vs H2 => rIndexD K x vs H2 Q
  | .count, t :: ts => fun σ H Q => t σ H fun x H1 => tyV K "list" x H1 ∧ seqT ts σ H1 fun vs H2 => rCntI K x vs H2 Q
  | .sl true true, [t, u, v] => fun σ H Q => t σ H fun x H1 => u σ H1 fun y H2 => ∃ i, y = .int i ∧ v σ H2 fun z H3 => ∃ j, z = .int j ∧ (rSlL K x (some i) (some j) H3 Q ∨ rSlA K x (some i) (some j) H3 Q)
  | o, ts => fun σ H Q => seqT ts σ H fun vs H1 => rO K o vs H1 Q

/-! ### the expressions' sides -/
inductive PEs (X : Cx) : List Expr → List TE → Prop
  | nil : PEs X [] []
  | cons {e : Expr} {es : List Expr} {t : TE} {ts : List TE} : PE X e t → (∀ v p, e ≠ .Starred v p) → PEs X es ts → PEs X (e :: es) (t :: ts)
theorem star_no {e : Expr} (h : ∀ v p, e ≠ .Starred v p) (es : List Expr) (env : PySem.Env) : starEach (e :: es) env = (false, eval e env) :: starEach es env := by
  cases e <;> first | rfl | exact absurd rfl (h _ _)
theorem star_any {X : Cx} : ∀ {es : List Expr} {ts : List TE}, PEs X es ts → ∀ (pos : Pos) (env : PySem.Env), (backTo pos (starEach es env)).any (·.1) = false
  | _, _, .nil, _, _ => rfl
  | _, _, .cons _ h r, pos, env => by
    rw [star_no h]
    show (false || (backTo pos (starEach _ env)).any (·.1)) = false
    rw [star_any r pos env]; rfl
theorem PEs.pa {X : Cx} : ∀ {es : List Expr} {ts : List TE}, PEs X es ts → PA X es (seqT ts)
  | _, _, .nil => pa_nil
  | _, _, .cons h n r => pa_cons h r.pa (star_no n _ _)

/-- the context's facts that the operators ask -/
structure OpX (X : Cx) : Prop where
  calm : X.calm = true
  units : X.A.units + 200 < cLine
  guards : X.A.guards = some []
  blt : ∀ x : Str, (x == "len" || x == "sorted" || x == "list" || x == "tuple" || x == "range" || x == "all" || x == "any" || x == "sum" || x == "max" || x == "min" || x == "int" || x == "str" || x == "repr" || x == "isinstance" || x == "bool" || x == "dict" || x == "set" || x == "enumerate" || x == "zip" || x == "reversed") = true → X.mg x = none
theorem isGl_of {sc : Scope} {x y : Str} (h : isGl sc x y = true) : x = y ∧ sc.names.lookup y = some .globalImplicit := by
  unfold isGl gl at h
  rw [Bool.and_eq_true] at h
  exact ⟨by simpa using h.1, by simpa using h.2⟩

section
variable {X : Cx}
theorem op_powB : OpR X (binaryOp .Pow) (rI (fun i j => 0 ≤ j ∧ j ≤ 1000 ∧ i.natAbs < 2 ^ 1000) fun i j => .int (i ^ j.toNat)) := opI fun i j _ _ _ _ _ hc q => by
  obtain ⟨h0, h1, h2⟩ := hc
  refine pow_int h0 ?_ q
  have b : Builtin.Int.intBits i ≤ 1000 := by
    unfold Builtin.Int.intBits
    split
    · omega
    · rename_i hne
      have : i.natAbs.log2 < 1000 := (Nat.log2_lt (by simpa using hne)).mpr h2
      omega
  have b' : (Builtin.Int.intBits i : Int) ≤ 1000 := by exact_mod_cast b
  calc (Builtin.Int.intBits i : Int) * j ≤ 1000 * j := Int.mul_le_mul_of_nonneg_right b' h0
    _ ≤ 1000 * 1000 := by omega
    _ ≤ 2 ^ 27 := by decide
theorem is_bool_gen {M : Model} {A : Around} {E : Value → Shared → Prop} {s : Shared} {Q : Value → Shared → Prop} {x : V} {v : Value} {b : Bool} (r : RelV x v) (h : Q (.bool (decide (x = .bl b))) s) : wpAny M A (compareOp .Is v (.bool b)) Q E s := by
  cases x with
  | non => cases r; exact wpAny_pure h
  | bl c => cases r; cases b <;> cases c <;> exact wpAny_pure h
  | int _ => obtain ⟨t, rfl⟩ := r; exact wpAny_pure h
  | str _ => obtain ⟨t, rfl⟩ := r; exact wpAny_pure h
  | byt _ => obtain ⟨t, rfl⟩ := r; exact wpAny_pure h
  | flt _ => obtain ⟨t, rfl⟩ := r; exact wpAny_pure h
  | ref _ => cases r; exact wpAny_pure h
  | ty _ => cases r; exact wpAny_pure h
theorem op_isBv (b : Bool) {a : Expr} {ta : TE} {k : Nat} {p : Pos} (ha : PE X a ta) : PC X .Is a (.Constant (.bool b) k p) (fun σ H Q => ta σ H fun x H1 => Q (.bl (decide (x = .bl b))) H1) := by
  refine ⟨fun pins s σ H Q I h => ?_⟩
  refine thn (ha.run pins s σ H _ I h) fun v s1 ⟨x, H1, I1, r1, q1⟩ => ?_
  exact Constant_bool (is_bool_gen r1 ⟨.bl _, H1, I1, rfl, q1⟩)
theorem blt_of (O : OpX X) {x : Str} (h : (x == "len" || x == "sorted" || x == "list" || x == "tuple" || x == "range" || x == "all" || x == "any" || x == "sum" || x == "max" || x == "min" || x == "int" || x == "str" || x == "repr" || x == "isinstance" || x == "bool" || x == "dict" || x == "set" || x == "enumerate" || x == "zip" || x == "reversed") = true := by decide) : X.mg x = none := O.blt x h
theorem reprR (O : OpX X) : CallR X (.builtin "repr") (fun vs H Q => ∃ x, vs = [x] ∧ ∃ d : PyData, L2.Dp X.K H x d ∧ PyData.showable d = true ∧ d.shown.length ≤ sizeLine ∧ d.depth ≤ 60 ∧ Q (.str d.shown) H) := by
  intro pins s σ H xs us Q I r h
  obtain ⟨x, rfl, d, hd, h1, h2, h3, q⟩ := h
  obtain ⟨u, rfl, rx⟩ := vals1 r
  obtain ⟨as, rd⟩ := L2.Dp.reads I d x u hd rx
  have hu := O.units
  have fin : ∀ h' v tk, (∀ b o, s.heap.get? b = some o → h'.get? b = some o) → EP X pins σ Q (.str d.shown v) { s with heap := h', toks := tk } := fun h' v tk k => ⟨.str d.shown, H, I.kept k, ⟨_, rfl⟩, q⟩
  have one : ∀ v, EP X pins σ Q (.str d.shown v) { s with toks := s.toks + 1 } := fun v => ⟨.str d.shown, H, I.tok _, ⟨_, rfl⟩, q⟩
  cases rd with
  | none => exact PySem.P.repr_of_none (one _)
  | bool b => exact PySem.P.repr_of_bool (one _)
  | int i t => exact PySem.P.repr_of_int (by simpa [PyData.showable] using h1) (one _)
  | str y t => exact PySem.P.repr_of_str (one _) h2
  | list a1 a2 a3 a4 => exact repr_of_reads' (.list a1 a2 a3 a4) h1 (fun z => absurd z (by rw [dp_noDict hd]; simp)) O.guards (by omega) (fun _ _ e => e) fin h2
  | tuple a1 a2 a3 a4 => exact repr_of_reads' (.tuple a1 a2 a3 a4) h1 (fun z => absurd z (by rw [dp_noDict hd]; simp)) O.guards (by omega) (fun _ _ e => e) fin h2
  | dict a1 a2 a3 a4 a5 => cases hd
where
  dp_noDict {K : PySem.W.Frag} {H : Hp} : ∀ {d : PyData} {x : V}, L2.Dp K H x d → d.hasDict = false
    | _, _, .non => rfl
    | _, _, .bl _ => rfl
    | _, _, .int _ => rfl
    | _, _, .str _ => rfl
    | _, _, .lst _ h => by unfold PyData.hasDict; exact dps_noDict h
    | _, _, .tup _ h => by unfold PyData.hasDict; exact dps_noDict h
  dps_noDict {K : PySem.W.Frag} {H : Hp} : ∀ {ds : List PyData} {xs : List V}, L2.DpAll K H xs ds → PyData.hasDictAll ds = false
    | _, _, .nil => rfl
    | _, _, .cons h r => by unfold PyData.hasDictAll; rw [dp_noDict h, dps_noDict r]; rfl

theorem no_set {op : CmpOp} {b : Expr} (h : isSetE b = false) : behindInMarks op b = false := by
  cases b <;> first | rfl | (simp [isSetE] at h)
theorem plain_ix {b : Expr} (h : isSliceE b = false) : PlainIx b := by
  intro o i
  cases b <;> first | rfl | (simp [isSliceE] at h)
/-- both: as a value, as a test -/
def PB (X : Cx) (e : Expr) (t : TE) : Prop := PE X e t ∧ PT X e (tB t)
theorem pb_call {f : Expr} {as : List Expr} {ks : List Keyword} {p : Pos} {t : TE} (h : PE X (.Call f as ks p) t) : PB X (.Call f as ks p) t := ⟨h, pt_val h (fun _ => rfl)⟩
theorem pb_sub {a b : Expr} {p : Pos} {t : TE} (h : PE X (.Subscript a b p) t) : PB X (.Subscript a b p) t := ⟨h, pt_val h (fun _ => rfl)⟩
theorem pb_bin {a b : Expr} {o : Operator} {p : Pos} {t : TE} (h : PE X (.BinOp a o b p) t) : PB X (.BinOp a o b p) t := ⟨h, pt_val h (fun _ => rfl)⟩
theorem pb_cmp {a b : Expr} {o : CmpOp} {p : Pos} {r : R2} {ta tb : TE} (ho : OpR X (compareOp o) r) (ha : PE X a ta) (hb : PE X b tb) (hm : behindInMarks o b = false) : PB X (.Compare a [o] [b] p) (tOp r ta tb) :=
  ⟨pe_cmpR ho ha hb hm, pt_cmpR ho ha hb hm⟩
theorem pb_pc {a b : Expr} {o : CmpOp} {p : Pos} {t : TE} (h : PC X o a b t) (hm : behindInMarks o b = false) : PB X (.Compare a [o] [b] p) t := ⟨pe_cmp h hm, pt_cmp h hm⟩
theorem glX {x : Str} (h : X.env.scope.names.lookup x = some .globalImplicit) : Gl X x := h
theorem no_base {o : Expr} (h : noCall0 o = true) (a : Str) (env : PySem.Env) : attributeBase o a env (eval o env) = eval o env := by
  cases o with
  | Call f as ks p =>
    cases f <;> (cases as <;> (cases ks <;> first | rfl | (simp [noCall0] at h)))
  | _ => rfl
theorem few1 {e : Expr} {p : Pos} {env : PySem.Env} (n : ∀ v p, e ≠ .Starred v p) : ((backTo p (starEach [e] env)).all (fun x => !x.1) && (backToKw p (keywordEach [] env)).all (fun x => x.1.isSome)
      && decide ([e].length + ([] : List Keyword).length + (if ([] : List Keyword).isEmpty then 0 else 1) < 30)) = true := by
  rw [star_no n]; rfl
theorem ty_boot {c : String} (h : tyName c = true) : bootBuiltins (Str.ofString c) = some (.type c) ∧ (Str.ofString c) ≠ "__name__" ∧ (Str.ofString c == ("__debug__" : Str)) = false ∧
    (let x := Str.ofString c; x == "len" || x == "sorted" || x == "list" || x == "tuple" || x == "range" || x == "all" || x == "any" || x == "sum" || x == "max" || x == "min" || x == "int" || x == "str" || x == "repr" || x == "isinstance" || x == "bool" || x == "dict" || x == "set" || x == "enumerate" || x == "zip" || x == "reversed") = true := by
  simp only [tyName, Bool.or_eq_true, beq_iff_eq] at h
  rcases h with (((rfl | rfl) | rfl) | rfl) | rfl <;> exact ⟨by decide +kernel, by decide +kernel, by decide +kernel, by decide +kernel⟩
theorem pe_tyn (O : OpX X) {c : String} {p : Pos} (h : tyName c = true) (hg : X.env.scope.names.lookup (Str.ofString c) = some .globalImplicit) : PE X (.Name (Str.ofString c) p) (tC (.ty c)) :=
  let ⟨h1, h2, h3, h4⟩ := ty_boot h
  pe_bltn (glX hg) (O.blt _ h4) h1 rfl h2 h3
theorem opA (O : OpX X) {o : Op} {e : Expr} {xs : List Expr} {ts : List TE} (h : shape X.env.scope o e = some xs) (p : PEs X xs ts) : PB X e (tOpN X.K o ts) := by
  have hu := O.units
  cases o with
  | add =>
    simp only [shape] at h; split at h <;> cases h
    obtain _ | ⟨ha, _, _ | ⟨hb, _, _ | _⟩⟩ := p
    exact pb_bin (pe_op (OpR.or op_add (OpR.or op_cat (OpR.or op_catT op_add_str))) ha hb)
  | sub =>
    simp only [shape] at h; split at h <;> cases h
    obtain _ | ⟨ha, _, _ | ⟨hb, _, _ | _⟩⟩ := p
    exact pb_bin (pe_op op_sub ha hb)
  | mul =>
    simp only [shape] at h; split at h <;> cases h
    obtain _ | ⟨ha, _, _ | ⟨hb, _, _ | _⟩⟩ := p
    exact pb_bin (pe_op (OpR.or op_mul op_rep) ha hb)
  | fdiv =>
    simp only [shape] at h; split at h <;> cases h
    obtain _ | ⟨ha, _, _ | ⟨hb, _, _ | _⟩⟩ := p
    exact pb_bin (pe_op op_fdivN ha hb)
  | mod =>
    simp only [shape] at h; split at h <;> cases h
    obtain _ | ⟨ha, _, _ | ⟨hb, _, _ | _⟩⟩ := p
    exact pb_bin (pe_op op_modN ha hb)
  | pow =>
    simp only [shape] at h; split at h <;> cases h
    obtain _ | ⟨ha, _, _ | ⟨hb, _, _ | _⟩⟩ := p
    exact pb_bin (pe_op op_powB ha hb)
  | neg =>
    simp only [shape] at h; split at h <;> cases h
    obtain _ | ⟨ha, _, _ | _⟩ := p
    have q := pe_un (pos := ‹Pos›) (un_neg (X := X)) ha
    exact ⟨q, pt_val q (fun _ => rfl)⟩
  | eq =>
    simp only [shape] at h; split at h <;> cases h
    obtain _ | ⟨ha, _, _ | ⟨hb, _, _ | _⟩⟩ := p
    exact pb_cmp (op_eqD (by omega)) ha hb (nomark _)
  | ne =>
    simp only [shape] at h; split at h <;> cases h
    obtain _ | ⟨ha, _, _ | ⟨hb, _, _ | _⟩⟩ := p
    exact pb_cmp (op_neD (by omega)) ha hb (nomark _)
  | lt =>
    simp only [shape] at h; split at h <;> cases h
    obtain _ | ⟨ha, _, _ | ⟨hb, _, _ | _⟩⟩ := p
    exact pb_cmp op_lt ha hb (nomark _)
  | le =>
    simp only [shape] at h; split at h <;> cases h
    obtain _ | ⟨ha, _, _ | ⟨hb, _, _ | _⟩⟩ := p
    exact pb_cmp op_le ha hb (nomark _)
  | gt =>
    simp only [shape] at h; split at h <;> cases h
    obtain _ | ⟨ha, _, _ | ⟨hb, _, _ | _⟩⟩ := p
    exact pb_cmp op_gt ha hb (nomark _)
  | ge =>
    simp only [shape] at h; split at h <;> cases h
    obtain _ | ⟨ha, _, _ | ⟨hb, _, _ | _⟩⟩ := p
    exact pb_cmp op_ge ha hb (nomark _)
  | isN =>
    simp only [shape] at h; split at h <;> cases h
    obtain _ | ⟨ha, _, _ | _⟩ := p
    exact pb_pc (pc_isN ha) (nomark _)
  | notN =>
    simp only [shape] at h; split at h <;> cases h
    obtain _ | ⟨ha, _, _ | _⟩ := p
    exact pb_pc (pc_notN ha) (nomark _)
  | isB b =>
    simp only [shape] at h; split at h
    · split at h <;> cases h
      rename_i e; subst e
      obtain _ | ⟨ha, _, _ | _⟩ := p
      exact pb_pc (op_isBv _ ha) (nomark _)
    · cases h
  | inn =>
    simp only [shape] at h; split at h
    · split at h <;> cases h
      rename_i e
      obtain _ | ⟨ha, _, _ | ⟨hb, _, _ | _⟩⟩ := p
      exact pb_cmp (OpR.or (op_inD (by omega)) op_in_seq) ha hb (no_set (by simpa using e))
    · cases h
  | notin =>
    simp only [shape] at h; split at h
    · split at h <;> cases h
      rename_i e
      obtain _ | ⟨ha, _, _ | ⟨hb, _, _ | _⟩⟩ := p
      exact pb_cmp (OpR.or (op_notInD (by omega)) op_notIn_seq) ha hb (no_set (by simpa using e))
    · cases h
  | len =>
    simp only [shape] at h; split at h
    · split at h <;> cases h
      rename_i e
      obtain ⟨rfl, hg⟩ := isGl_of e
      obtain _ | ⟨ha, na, _ | _⟩ := p
      exact pb_call (pe_callB call_len_seq (glX hg) (blt_of O) boot_len (pa_cons ha pa_nil (star_no na _ _)) (by decide) (by decide) (star_no na _ _) rfl)
    · cases h
  | srt =>
    simp only [shape] at h; split at h
    · split at h <;> cases h
      rename_i e
      obtain ⟨rfl, hg⟩ := isGl_of e
      obtain _ | ⟨ha, na, _ | _⟩ := p
      exact pb_call (pe_callB cr_sortedI (glX hg) (blt_of O) (by decide +kernel) (pa_cons ha pa_nil (star_no na _ _)) (by decide) (by decide) (star_no na _ _) rfl)
    · cases h
  | all =>
    simp only [shape] at h; split at h
    · split at h <;> cases h
      rename_i e
      obtain ⟨rfl, hg⟩ := isGl_of e
      obtain _ | ⟨ha, na, _ | _⟩ := p
      exact pb_call (pe_callB (cr_all O.calm) (glX hg) (blt_of O) (by decide +kernel) (pa_cons ha pa_nil (star_no na _ _)) (by decide) (by decide) (star_no na _ _) rfl)
    · cases h
  | any =>
    simp only [shape] at h; split at h
    · split at h <;> cases h
      rename_i e
      obtain ⟨rfl, hg⟩ := isGl_of e
      obtain _ | ⟨ha, na, _ | _⟩ := p
      exact pb_call (pe_callB (cr_any O.calm) (glX hg) (blt_of O) (by decide +kernel) (pa_cons ha pa_nil (star_no na _ _)) (by decide) (by decide) (star_no na _ _) rfl)
    · cases h
  | sum =>
    simp only [shape] at h; split at h
    · split at h <;> cases h
      rename_i e
      obtain ⟨rfl, hg⟩ := isGl_of e
      obtain _ | ⟨ha, na, _ | _⟩ := p
      exact pb_call (pe_callB (cr_sum O.calm) (glX hg) (blt_of O) (by decide +kernel) (pa_cons ha pa_nil (star_no na _ _)) (by decide) (by decide) (star_no na _ _) rfl)
    · cases h
  | maxL =>
    simp only [shape] at h; split at h
    · split at h <;> cases h
      rename_i e
      obtain ⟨rfl, hg⟩ := isGl_of e
      obtain _ | ⟨ha, na, _ | _⟩ := p
      exact pb_call (pe_callB (cr_max O.calm) (glX hg) (blt_of O) (by decide +kernel) (pa_cons ha pa_nil (star_no na _ _)) (by decide) (by decide) (star_no na _ _) rfl)
    · cases h
  | minL =>
    simp only [shape] at h; split at h
    · split at h <;> cases h
      rename_i e
      obtain ⟨rfl, hg⟩ := isGl_of e
      obtain _ | ⟨ha, na, _ | _⟩ := p
      exact pb_call (pe_callB (cr_min O.calm) (glX hg) (blt_of O) (by decide +kernel) (pa_cons ha pa_nil (star_no na _ _)) (by decide) (by decide) (star_no na _ _) rfl)
    · cases h
  | max2 =>
    simp only [shape] at h; split at h
    · split at h <;> cases h
      rename_i e
      obtain ⟨rfl, hg⟩ := isGl_of e
      obtain _ | ⟨ha, na, _ | ⟨hb, nb, _ | _⟩⟩ := p
      exact pb_call (pe_callB (call_max2 O.calm) (glX hg) (blt_of O) (by decide +kernel) (pa_cons ha (pa_cons hb pa_nil (star_no nb _ _)) (star_no na _ _)) (by decide) (by decide) (star_no na _ _) (by rw [star_no nb]; rfl))
    · cases h
  | min2 =>
    simp only [shape] at h; split at h
    · split at h <;> cases h
      rename_i e
      obtain ⟨rfl, hg⟩ := isGl_of e
      obtain _ | ⟨ha, na, _ | ⟨hb, nb, _ | _⟩⟩ := p
      exact pb_call (pe_callB (call_min2 O.calm) (glX hg) (blt_of O) (by decide +kernel) (pa_cons ha (pa_cons hb pa_nil (star_no nb _ _)) (star_no na _ _)) (by decide) (by decide) (star_no na _ _) (by rw [star_no nb]; rfl))
    · cases h
  | toInt =>
    simp only [shape] at h; split at h
    · split at h <;> cases h
      rename_i e
      obtain ⟨rfl, hg⟩ := isGl_of e
      obtain _ | ⟨ha, na, _ | _⟩ := p
      exact pb_call (pe_callTy call_int1 (glX hg) (blt_of O) (by decide +kernel) (pa_cons ha pa_nil (star_no na _ _)) (by decide) (by decide) (star_no na _ _) rfl)
    · cases h
  | toStr =>
    simp only [shape] at h; split at h
    · split at h <;> cases h
      rename_i e
      obtain ⟨rfl, hg⟩ := isGl_of e
      obtain _ | ⟨ha, na, _ | _⟩ := p
      exact pb_call (pe_callTy call_str_int (glX hg) (blt_of O) (by decide +kernel) (pa_cons ha pa_nil (star_no na _ _)) (by decide) (by decide) (star_no na _ _) rfl)
    · cases h
  | repr =>
    simp only [shape] at h; split at h
    · split at h <;> cases h
      rename_i e
      obtain ⟨rfl, hg⟩ := isGl_of e
      obtain _ | ⟨ha, na, _ | _⟩ := p
      exact pb_call (pe_callB (reprR O) (glX hg) (blt_of O) (by decide +kernel) (pa_cons ha pa_nil (star_no na _ _)) (by decide) (by decide) (star_no na _ _) rfl)
    · cases h
  | lr1 =>
    simp only [shape] at h; split at h
    · split at h <;> cases h
      rename_i e
      rw [Bool.and_eq_true] at e
      obtain ⟨rfl, hg⟩ := isGl_of e.1
      obtain ⟨rfl, hg2⟩ := isGl_of e.2
      obtain _ | ⟨ha, na, _ | _⟩ := p
      exact pb_call (pe_listRg O.calm (glX hg) (blt_of O) (prg_1 (glX hg2) (blt_of O) ha (star_no na _ _)) rfl)
    · cases h
  | lr2 =>
    simp only [shape] at h; split at h
    · split at h <;> cases h
      rename_i e
      rw [Bool.and_eq_true] at e
      obtain ⟨rfl, hg⟩ := isGl_of e.1
      obtain ⟨rfl, hg2⟩ := isGl_of e.2
      obtain _ | ⟨ha, na, _ | ⟨hb, nb, _ | _⟩⟩ := p
      exact pb_call (pe_listRg O.calm (glX hg) (blt_of O) (prg_2 (glX hg2) (blt_of O) ha hb (star_no na _ _) (star_no nb _ _) (by rw [star_no nb]; rfl)) rfl)
    · cases h
  | lst =>
    simp only [shape] at h; split at h <;> cases h
    have q := pe_lst (pos := ‹Pos›) p.pa
    exact ⟨q, pt_val q (fun _ => rfl)⟩
  | tup =>
    simp only [shape] at h; split at h <;> cases h
    have q := pe_tup (x1 := ‹Nat›) (pos := ‹Pos›) p.pa
    exact ⟨q, pt_val q (fun _ => rfl)⟩
  | dct =>
    simp only [shape] at h; split at h <;> cases h
    cases p
    have q := pe_dnewK (X := X) (pos := ‹Pos›)
    exact ⟨q, pt_val q (fun _ => rfl)⟩
  | ix =>
    simp only [shape] at h; split at h
    · split at h <;> cases h
      rename_i e
      obtain _ | ⟨ha, _, _ | ⟨hb, _, _ | _⟩⟩ := p
      exact pb_sub (pe_ix ix_seq ha hb (plain_ix (by simpa using e)))
    · cases h
  | sl lo hi =>
    cases lo <;> cases hi
    · simp only [shape] at h; split at h <;> cases h
      obtain _ | ⟨ha, _, _ | _⟩ := p
      exact pb_sub (pe_slice sl_list ha po_none po_none)
    · simp only [shape] at h; split at h <;> cases h
      obtain _ | ⟨ha, _, _ | ⟨hb, _, _ | _⟩⟩ := p
      exact pb_sub (pe_slice (SlR.or sl_list sl_tupA) ha po_none (po_some hb))
    · simp only [shape] at h; split at h <;> cases h
      obtain _ | ⟨ha, _, _ | ⟨hb, _, _ | _⟩⟩ := p
      exact pb_sub (pe_slice (SlR.or sl_list sl_tupA) ha (po_some hb) po_none)
    · simp only [shape] at h; split at h <;> cases h
      obtain _ | ⟨ha, _, _ | ⟨hb, _, _ | ⟨hc, _, _ | _⟩⟩⟩ := p
      exact pb_sub (pe_slice (SlR.or sl_list sl_tupA) ha (po_some hb) (po_some hc))
  | rev =>
    simp only [shape] at h; split at h <;> cases h
    obtain _ | ⟨ha, _, _ | _⟩ := p
    exact pb_sub (pe_revL ha)
  | bitlen =>
    simp only [shape] at h; split at h
    · split at h <;> cases h
      rename_i e
      simp only [Bool.and_eq_true, beq_iff_eq] at e
      obtain ⟨⟨rfl, e1⟩, e2⟩ := e
      obtain _ | ⟨ha, _, _ | _⟩ := p
      exact pb_call (pe_bits ha (no_base e2 _ _) (by simp [e1]))
    · cases h
  | index =>
    simp only [shape] at h; split at h
    · split at h <;> cases h
      rename_i e
      simp only [Bool.and_eq_true, beq_iff_eq] at e
      obtain ⟨⟨rfl, e1⟩, e2⟩ := e
      obtain _ | ⟨ha, _, _ | ⟨hb, nb, _ | _⟩⟩ := p
      exact pb_call (pe_bm PySem.F.plainAttrs_list PySem.F.slot_list_index PySem.F.type_list_index (mt_indexD (by omega)) ha (pa_cons hb pa_nil (star_no nb _ _)) (no_base e2 _ _) (few1 nb) (by simp [e1]) (star_no nb _ _) rfl)
    · cases h
  | count =>
    simp only [shape] at h; split at h
    · split at h <;> cases h
      rename_i e
      simp only [Bool.and_eq_true, beq_iff_eq] at e
      obtain ⟨⟨rfl, e1⟩, e2⟩ := e
      obtain _ | ⟨ha, _, _ | ⟨hb, nb, _ | _⟩⟩ := p
      exact pb_call (pe_bm PySem.F.plainAttrs_list PySem.F.slot_list_count PySem.F.type_list_count mt_lcount ha (pa_cons hb pa_nil (star_no nb _ _)) (no_base e2 _ _) (few1 nb) (by simp [e1]) (star_no nb _ _) rfl)
    · cases h
  | isi c =>
    simp only [shape] at h; split at h
    · split at h <;> cases h
      rename_i e
      simp only [Bool.and_eq_true] at e
      obtain ⟨⟨e1, e2⟩, e3⟩ := e
      obtain ⟨rfl, hg⟩ := isGl_of e1
      obtain ⟨rfl, hg2⟩ := isGl_of e2
      obtain _ | ⟨ha, na, _ | _⟩ := p
      exact pb_call (show PE X _ (tCB (rIsi X.K) (tCons _ (tCons (tC (.ty c)) tNil))) from pe_callB call_isi (glX hg) (blt_of O) PyProof.Rows.boot_isinstance (pa_cons ha (pa_cons (pe_tyn O e3 hg2) pa_nil rfl) (star_no na _ _)) (by decide) (by decide) (star_no na _ _) rfl)
    · cases h
  | isi2 c d =>
    simp only [shape] at h; split at h
    · split at h <;> cases h
      rename_i e
      simp only [Bool.and_eq_true] at e
      obtain ⟨⟨⟨⟨e1, e2⟩, e3⟩, e4⟩, e5⟩ := e
      obtain ⟨rfl, hg⟩ := isGl_of e1
      obtain ⟨rfl, hg2⟩ := isGl_of e2
      obtain ⟨rfl, hg3⟩ := isGl_of e3
      obtain _ | ⟨ha, na, _ | _⟩ := p
      exact pb_call (show PE X _ (tCB (rIsiT X.K) (tCons _ (tCons (tTup (tCons (tC (.ty c)) (tCons (tC (.ty d)) tNil))) tNil))) from pe_callB call_isiT (glX hg) (blt_of O) PyProof.Rows.boot_isinstance (pa_cons ha (pa_cons (pe_tup (pa_cons (pe_tyn O e4 hg2) (pa_cons (pe_tyn O e5 hg3) pa_nil rfl) rfl)) pa_nil rfl) (star_no na _ _)) (by decide) (by decide) (star_no na _ _) rfl)
    · cases h
  | listOf =>
    simp only [shape] at h; split at h
    · split at h <;> cases h
      rename_i e
      obtain ⟨rfl, hg⟩ := isGl_of e
      obtain _ | ⟨ha, na, _ | _⟩ := p
      exact pb_call (pe_callTy call_list_of (glX hg) (blt_of O) (by decide +kernel) (pa_cons ha pa_nil (star_no na _ _)) (by decide) (by decide) (star_no na _ _) rfl)
    · cases h
  | tupOf =>
    simp only [shape] at h; split at h
    · split at h <;> cases h
      rename_i e
      obtain ⟨rfl, hg⟩ := isGl_of e
      obtain _ | ⟨ha, na, _ | _⟩ := p
      exact pb_call (pe_callTy call_tuple_of (glX hg) (blt_of O) (by decide +kernel) (pa_cons ha pa_nil (star_no na _ _)) (by decide) (by decide) (star_no na _ _) rfl)
    · cases h
  | srtset => simp [shape] at h
  | sumL => simp [shape] at h
  | lr3 => simp [shape] at h
end
end OH

namespace OH
open PySem PySem.Spec PyProof.Rows L2

/-! ### a def's promise, where nothing is being shown -/
structure FnG (P : Program) (w : World) (K : PySem.W.Frag) (mg : Str → Option Value) (base : Heap) (k : Nat) (f : Addr) (fd : FuncData) (ps : List Str) (sp : Sp) : Prop where
  len : ∀ vs H Q E, sp vs H Q E → vs.length = ps.length
  go : ∀ (A : Around) (out : List PySem.Env) (s : Shared) (H : Hp) (as : Args) (us : List Value) (vs : List V) (Q : VK) (E : XK),
    A.guards = some [] → Room k A → Env0 P w K mg base A out s H → BindsTo s fd as (ps.zip us) → Vals vs us → sp vs H Q E →
    codeAny (model P w) A (.call (.ref f) as) (CR (L2.CX P w) out P w H s Q E) s
section
variable {P : Program} {w : World} {K : PySem.W.Frag} {mg : Str → Option Value} {base : Heap} {k : Nat} {f : Addr} {fd : FuncData} {ps : List Str} {sp sp' : Sp}
theorem FnG.up {j : Nat} (F : FnG P w K mg base j f fd ps sp) (h : j ≤ k) : FnG P w K mg base k f fd ps sp :=
  ⟨F.len, fun A out s H as us vs Q E g r => F.go A out s H as us vs Q E g (r.mono h)⟩
theorem FnG.sub (F : FnG P w K mg base k f fd ps sp) (h : ∀ vs H Q E, sp' vs H Q E → sp vs H Q E) : FnG P w K mg base k f fd ps sp' :=
  ⟨fun vs H Q E q => F.len vs H Q E (h _ _ _ _ q), fun A out s H as us vs Q E g r e b v q => F.go A out s H as us vs Q E g r e b v (h _ _ _ _ q)⟩
/-- a def by its body -/
theorem FnG.of {x qual : Str} {st : Stmt} {N : List Str} (F : Fun K x qual st f fd) (S : FnScope N ps (defScope st)) (len : ∀ vs H Q E, sp vs H Q E → vs.length = ps.length)
    (body : ∀ (cv : Value) (A : Around) (out : List PySem.Env) (s : Shared) (H : Hp) (vs : List V) (Q : VK) (E : XK), A.guards = some [] → Room k (A.deeper (envOfC qual (defScope st) s.heap.objs.size f cv)) → sp vs H Q E →
      ∃ t, PSs (cxOf (L2.CX P w) P w K mg base N qual (defScope st) f cv A out s H E) (defBody st) t ∧ t { nx := fun _ H' => Q .non H', rt := Q } (start N vs) H) : FnG P w K mg base (k + 1) f fd ps sp := by
  obtain ⟨oc, od, kV, doc, pm, an, cv, ct, osl, rfl, lk, hcd⟩ := F.ex
  refine ⟨len, fun A out s H as us vs Q E hg hr e0 hb r q => ?_⟩
  have hl := len _ _ _ _ q
  have KX : K.In s.heap := e0.mod.kin.keeps fun b o e => (e0.bs b o e).1
  have lim : s.heap.NoLimit := e0.mod.nolimit.keeps fun b o e => (e0.bs b o e).1
  have kinds : ∀ y ∈ ps.zip us, (defScope st).names.lookup y.1 = some .local ∨ ((defScope st).names.lookup y.1 = some .cell ∧ ((cellsFrom (s.heap.objs.size + 1) (defScope st).names []).lookup y.1).isSome = true) := by
    rintro ⟨n, v⟩ hy
    rcases S.par n (List.of_mem_zip hy).1 with z | z
    · exact .inl z
    · exact .inr ⟨z, PySem.W.cellsFrom_some _ _ _ (.inl z)⟩
  refine codeAny_call_function hr.depth (KX _ _ lk) rfl S.co S.gen rfl (PySem.W.codeRec_of KX hcd) (hb _ _ _ _ ?_)
  refine wpAny_newFunctionEnv_cells S.kind kinds fun env he s1 x => ?_
  subst he
  refine ⟨lim.keeps x.toInCall.keep, codeAny_func ?_⟩
  obtain ⟨t, ht, hq⟩ := body cv A out s H vs Q E hg (hr.deeper _) q
  have I := inv_start (CX := L2.CX P w) (E := E) S hr.hd e0 hl r x
  refine wpAny_mono (ht.run [] s1 (start N vs) H _ I hq) (fun fl s' hs => ?_) fun e s' hs => hs
  cases fl with
  | ret u =>
    obtain ⟨v, σ', H', J, rv, z⟩ := hs
    exact ⟨v, H', J.os, J.bare, J.base, J.hok, rv, z⟩
  | next =>
    obtain ⟨σ', H', J, z⟩ := hs
    exact ⟨.non, H', J.os, J.bare, J.base, J.hok, rfl, z⟩
  | brk => obtain ⟨_, _, _, z⟩ := hs; exact z.elim
  | cont => obtain ⟨_, _, _, z⟩ := hs; exact z.elim
end
section
variable {X : Cx} {W : WX} {k : Nat} {f : Addr} {fd : FuncData} {ps ks : List Str} {sp : Sp}
theorem run_G {pins : List (Addr × Obj)} {σ : L2.St} {H : Hp} {s : Shared} {Q : VK} {as : Args} {us : List Value} {vs : List V} (F : FnG X.prog X.w X.K X.mg X.base k f fd ps sp) (hg : X.A.guards = some []) (hr : Room k X.A) (tk : Takes X W)
    (I : Inv X pins σ H s) (b : BindsTo s fd as (ps.zip us)) (r : Vals vs us) (h : sp vs H Q (WE W σ)) : wpAny (model X.prog X.w) X.A (call (.ref f) as.pos as.kw) (EP X pins σ Q) X.xe s := by
  refine wpAny_call (codeAny_mono (F.go X.A X.stack s H as us vs Q (WE W σ) hg hr I.env0 b r h) fun z s' hq => ?_)
  match z, hq with
  | .error e, hq => exact passAt tk σ pins H s e s' I hq
  | .ok (.ret u), hq => exact I.after hq
/-- f(e, ..), by place -/
theorem pe_G {x : Str} {p pos : Pos} {e : Expr} {es : List Expr} {ts : List TE} (F : FnG X.prog X.w X.K X.mg X.base k f fd ps sp) (hgd : X.A.guards = some []) (hr : Room k X.A) (hg : Gl X x) (hm : X.mg x = some (.ref f)) (hk : PySem.W.keepIn X.K (.ref f) = true)
    (hb : Binds X.K fd ps []) (tk : Takes X W) (ha : PEs X (e :: es) ts) (hd : (x == ("__debug__" : Str)) = false) : PE X (.Call (.Name x p) (e :: es) [] pos) (fun σ H Q => seqT ts σ H fun vs H1 => sp vs H1 Q (WE W σ)) := by
  refine ⟨fun pins s σ H Q I h => ?_⟩
  refine wpAny_Call_Name_kw (ld_glob I hg hm ?_ hd)
  cases ha with
  | cons h1 n1 rest =>
    refine PySem.W.callWith_K (h₀ := X.base) I.ok.mod.kin hk (thn ((PEs.pa (.cons h1 n1 rest)).run pos pins s σ H _ I h) fun us s1 ⟨vs, H1, I1, r, q⟩ => ⟨I1.kIn, ?_⟩) (star_no n1 _ _) (star_any rest _ _)
    have hl : us.length = ps.length := by rw [← r.length]; exact F.len _ _ _ _ q
    have b := hb s1 us I1.kIn (by rw [List.append_nil]; exact hl)
    rw [List.append_nil] at b
    exact run_G (as := ⟨us, []⟩) F hgd hr tk I1 b r q
theorem pe_G0 {x : Str} {p pos : Pos} (F : FnG X.prog X.w X.K X.mg X.base k f fd ps sp) (hgd : X.A.guards = some []) (hr : Room k X.A) (hg : Gl X x) (hm : X.mg x = some (.ref f)) (hk : PySem.W.keepIn X.K (.ref f) = true)
    (hb : Binds X.K fd ps []) (tk : Takes X W) (hd : (x == ("__debug__" : Str)) = false) : PE X (.Call (.Name x p) [] [] pos) (fun σ H Q => seqT [] σ H fun vs H1 => sp vs H1 Q (WE W σ)) := by
  refine ⟨fun pins s σ H Q I h => ?_⟩
  refine wpAny_Call_Name_kw (ld_glob I hg hm ?_ hd)
  have q : sp [] H Q (WE W σ) := h
  have hl : ([] : List Value).length = ps.length := F.len _ _ _ _ q
  have b := hb s [] I.kIn hl
  exact PySem.W.callWith_K0 I.kIn hk (run_G (as := ⟨[], []⟩) (us := []) F hgd hr tk I b .nil q)

/-- the keywords' values -/
inductive PKs (X : Cx) : List Keyword → List Str → List TE → Prop
  | nil : PKs X [] [] []
  | cons {e : Expr} {n : Str} {p : Pos} {ks : List Keyword} {ns : List Str} {t : TE} {ts : List TE} : PE X e t → PKs X ks ns ts → PKs X (⟨some n, e, p⟩ :: ks) (n :: ns) (t :: ts)
theorem PKs.pk : ∀ {kws : List Keyword} {ns : List Str} {ts : List TE}, PKs X kws ns ts → PK X kws (seqT ts)
  | _, _, _, .nil => pk_nil
  | _, _, _, .cons h r => pk_cons h r.pk
theorem PKs.all {pos : Pos} : ∀ {kws : List Keyword} {ns : List Str} {ts : List TE}, PKs X kws ns ts → (backToKw pos (keywordEach kws X.env)).all (·.1.isSome) = true
  | _, _, _, .nil => rfl
  | _, _, _, .cons h r => by
    show (true && (backToKw pos (keywordEach _ X.env)).all (·.1.isSome)) = true
    rw [PKs.all r]; rfl
theorem PKs.names {pos : Pos} : ∀ {kws : List Keyword} {ns : List Str} {ts : List TE}, PKs X kws ns ts → (backToKw pos (keywordEach kws X.env)).filterMap (·.1) = ns
  | _, _, _, .nil => rfl
  | _, _, _, .cons (n := n) (ns := ns) h r => by
    show n :: (backToKw pos (keywordEach _ X.env)).filterMap (·.1) = n :: ns
    rw [PKs.names r]
theorem PKs.noneNo {pos : Pos} : ∀ {kws : List Keyword} {ns : List Str} {ts : List TE}, PKs X kws ns ts → (backToKw pos (keywordEach kws X.env)).any (·.1.isNone) = false
  | _, _, _, .nil => rfl
  | _, _, _, .cons h r => by
    show (false || (backToKw pos (keywordEach _ X.env)).any (·.1.isNone)) = false
    rw [PKs.noneNo r]; rfl
/-- how keywords alone bind: the names ns, each a parameter; at place j of the parameters stands the value at ix j -/
def KwB (K : PySem.W.Frag) (fd : FuncData) (ps ns : List Str) (ix : List Nat) : Prop :=
  ∀ (s : Shared) (ws : List Value), K.In s.heap → ws.length = ns.length → BindsTo s fd ⟨[], ns.zip ws⟩ (ps.zip (arrange ws ix))
theorem vals_arr {vs : List V} {us : List Value} (r : Vals vs us) (ix : List Nat) : Vals (arrange vs ix) (arrange us ix) := by
  unfold arrange
  generalize List.range ix.length = l
  induction l with
  | nil => exact .nil
  | cons j l ih =>
    rw [List.filterMap_cons, List.filterMap_cons]
    cases h : ix.idxOf? j with
    | none => exact ih
    | some i =>
      simp only [Option.bind_some]
      cases e : vs[i]? with
      | none => rw [r.none_of e]; exact ih
      | some v =>
        obtain ⟨u, e2, rv⟩ := r.get e
        rw [e2]
        exact .cons rv ih
theorem pe_GK {x : Str} {p pos : Pos} {kws : List Keyword} {ns : List Str} {ix : List Nat} {ts : List TE} (F : FnG X.prog X.w X.K X.mg X.base k f fd ps sp) (hgd : X.A.guards = some []) (hr : Room k X.A) (hg : Gl X x) (hm : X.mg x = some (.ref f)) (hk : PySem.W.keepIn X.K (.ref f) = true)
    (hb : KwB X.K fd ps ns ix) (tk : Takes X W) (ha : PKs X kws ns ts) (hd : (x == ("__debug__" : Str)) = false) :
    PE X (.Call (.Name x p) [] kws pos) (fun σ H Q => seqT ts σ H fun vs H1 => vs.length = ns.length ∧ sp (arrange vs ix) H1 Q (WE W σ)) := by
  refine ⟨fun pins s σ H Q I h => ?_⟩
  refine wpAny_Call_Name_kw (ld_glob I hg hm ?_ hd)
  refine PySem.W.callWith_KW0 (h₀ := X.base) I.ok.mod.kin hk ha.all (thn (ha.pk.run pos pins s σ H _ I h) fun us s1 ⟨vs, H1, I1, r, hlen, q⟩ => ⟨I1.kIn, ?_⟩) (by
    show (false || (backToKw pos (keywordEach kws X.env)).any (·.1.isNone)) = false
    rw [ha.noneNo]; rfl)
  rw [ha.names]
  exact run_G (as := ⟨[], ns.zip us⟩) F hgd hr tk I1 (hb s1 us I1.kIn (by rw [← r.length]; exact hlen)) (vals_arr r ix) q
end
end OH

namespace OH
open PySem PySem.Spec PyProof.Rows L2

/-- what calls mean here -/
structure TC where
  K : PySem.W.Frag
  sp : Nat → Sp
  W : WX
abbrev W0 : WX := fun _ _ _ _ => False
abbrev TC.inn (c : TC) : TC := { c with W := W0 }

def gSeq (K : PySem.W.Frag) (n : Nat) (t : TGs) : TG := fun v σ H Q => gTup K n t v σ H Q ∨ gUnl K n t v σ H Q
theorem pg_or {X : Cx} {e : Expr} {g h : TG} (a : PG X e g) (b : PG X e h) : PG X e (fun v σ H Q => g v σ H Q ∨ h v σ H Q) :=
  ⟨fun pins s σ H v u Q I r q => q.elim (a.run pins s σ H v u Q I r) (b.run pins s σ H v u Q I r)⟩
def tTg (K : PySem.W.Frag) : Tg → TG
  | .nm i => gName i
  | .tp is => gSeq K is.length (gNms is)
where gNms : List Nat → TGs
  | [] => gNil
  | i :: is => gCons (gName i) (gNms is)
def rO2 (K : PySem.W.Frag) (o : Op) : R2 := fun x y H Q => rO K o [x, y] H Q
def tIt (K : PySem.W.Frag) (k : ItK) (ts : List TE) : TI := match k, ts with
  | .list, [t] => iList K t
  | .tup, [t] => iTup K t
  | .r1, [t] => iRng1 (seqT [t])
  | .r2, [t, u] => iRng2 (seqT [t, u])
  | .r3, [t, u, v] => iRng3 (seqT [t, u, v])
  | .enum, [t] => iEnum K (seqT [t])
  | .zip false, [t, u] => RZ.iZipA K (seqT [t, u])
  | .rev, [t] => iRev K (seqT [t])
  | .str, [t] => iStr t
  | _, _ => fun _ _ _ => False
mutual
def tE (c : TC) : E → TE
  | .var i | .vin i | .mov i | .ref i => tVar i
  | .int n => tC (.int n)
  | .bl b => tC (.bl b)
  | .non => tC .non
  | .str s => tC (.str s)
  | .gint _ n => tC (.int n)
  | .op o es => tOpN c.K o (tEl c es)
  | .chn a o1 b o2 d => tChain (rO2 c.K o1) (rO2 c.K o2) (tE c a) (tE c b) (tE c d)
  | .and a b => tAndV (tE c a) (tE c b)
  | .or a b => tOrV (tE c a) (tE c b)
  | .not a => tNotV (tE c a)
  | .ite d a b => tIf (tB (tE c d)) (tE c a) (tE c b)
  | .call f es => fun σ H Q => seqT (tEl c es) σ H fun vs H1 => c.sp f vs H1 Q (WE c.W σ)
  | .callk f es ks => fun σ H Q => seqT (tEl c es) σ H fun vs H1 => vs.length = ks.length ∧ c.sp f (arrange vs ks) H1 Q (WE c.W σ)
  | .app i e => tBM c.K "list" rAppend (tVar i) (tCons (tE c e) tNil)
  | .pop i => tBM0 c.K "list" rPop (tVar i)
  | .popi i e => tBM c.K "list" rPopAt (tVar i) (tCons (tE c e) tNil)
  | .comp t own k es cs e => tLc (tIt c.K k (tEl c es)) (tTg c.K t) (tCs c.inn cs) (tE c.inn e) own
  | .comp2 t own k es cs t2 own2 k2 es2 cs2 e => tLc2 (tIt c.K k (tEl c es)) (tTg c.K t) (tCs c.inn cs) (tIt c.K k2 (tEl c.inn es2)) (tTg c.K t2) (tCs c.inn cs2) (tE c.inn e) own own2
  | .scal e => tE c e
  | .tall _ e => tE c e
  | .compO t own i cs e => tLc (tIt c.K .list [tVar i]) (tTg c.K t) (tCs c.inn cs) (tE c.inn e) own
  | .appR i e => tBM c.K "list" rAppend (tVar i) (tCons (tE c e) tNil)
def tEl (c : TC) : List E → List TE
  | [] => []
  | e :: es => tE c e :: tEl c es
def tCs (c : TC) : List E → TT
  | [] => tYes
  | [e] => tB (tE c e)
  | _ => fun _ _ _ => False
end

/-! ### the match -/
structure MC where
  N : List Str
  sc : Scope
  /-- the names stored by cells of this block -/
  fn : Str → Bool
  /-- own defs: names and parameters -/
  fs : Nat → Option (Str × List Str × List (List Nat))
  /-- constants of the module -/
  G : List (Str × Int)
def MC.blk (m : MC) (scope : Scope) : MC := { m with sc := relS scope m.sc, fn := fun x => scope.names.lookup x == some .cell }
def visB (sc : Scope) (x : Str) : Bool := match sc.names.lookup x with | some .local | some .cell | some .free => true | _ => false
def locB (m : MC) (x : Str) : Bool := match m.sc.names.lookup x with | some .local => true | some .cell => m.fn x | _ => false
def nmB (m : MC) (i : Nat) (x : Str) : Bool := decide (m.N[i]? = some x) && visB m.sc x && !(x == ("__debug__" : Str)) && !(x == ("__classdict__" : Str))
def stB (m : MC) (i : Nat) (x : Str) : Bool := decide (m.N[i]? = some x) && locB m x
def mTgs (m : MC) : List Nat → List Expr → Bool
  | [], [] => true
  | i :: is, .Name x _ :: es => stB m i x && mTgs m is es
  | _, _ => false
def mTg (m : MC) : Tg → Expr → Bool
  | .nm i, .Name x _ => stB m i x
  | .tp is, .Tuple es _ _ => mTgs m is es
  | _, _ => false
/-- may stand as a test -/
def tst : E → Bool
  | .ite _ _ _ => false
  | .and a b => tst a && tst b
  | .or a b => tst a && tst b
  | .not a => tst a
  | .scal e => tst e
  | .tall _ e => tst e
  | _ => true
/-- the operands of what is walked -/
def itShape (sc : Scope) (tg : Expr) (k : ItK) (e : Expr) : Option (List Expr) := match k with
  | .list => if isSetE e then none else some [e]
  | .tup => if isSetE e then none else some [e]
  | .str => if isSetE e then none else some [e]
  | .r1 => (match e with | .Call (.Name x _) [a] [] _ => if isGl sc x "range" then some [a] else none | _ => none)
  | .r2 => (match e with | .Call (.Name x _) [a, b] [] _ => if isGl sc x "range" then some [a, b] else none | _ => none)
  | .r3 => (match e with | .Call (.Name x _) [a, b, c] [] _ => if isGl sc x "range" then some [a, b, c] else none | _ => none)
  | .enum => (match tg, e with | .Tuple _ _ _, .Call (.Name x _) [a] [] _ => if isGl sc x "enumerate" then some [a] else none | _, _ => none)
  | .zip st => (match st, tg, e with | false, .Tuple _ _ _, .Call (.Name x _) [a, b] [] _ => if isGl sc x "zip" then some [a, b] else none | _, _, _ => none)
  | .rev => (match e with | .Call (.Name x _) [a] [] _ => if isGl sc x "reversed" then some [a] else none | _ => none)
def kwNames : List Keyword → Option (List Str)
  | [] => some []
  | ⟨some n, _, _⟩ :: r => (kwNames r).map (n :: ·)
  | ⟨none, _, _⟩ :: _ => none
def kwVals (kws : List Keyword) : List Expr := kws.map (·.value)
def isAnd : E → Bool | .and _ _ => true | _ => false
def isOr : E → Bool | .or _ _ => true | _ => false
def cmpB (o : Op) (p : CmpOp) : Bool := match o with
  | .lt => decide (p = .Lt)
  | .le => decide (p = .LtE)
  | .gt => decide (p = .Gt)
  | .ge => decide (p = .GtE)
  | _ => false
def tstL : List E → Bool
  | [] => true
  | [e] => tst e
  | _ => false
mutual
def mtch (m : MC) (e : E) (x : Expr) : Bool := match e with
  | .var i => (match x with | .Name y _ => nmB m i y | _ => false)
  | .vin i => (match x with | .Name y _ => nmB m i y | _ => false)
  | .mov i => (match x with | .Name y _ => nmB m i y | _ => false)
  | .ref i => (match x with | .Name y _ => nmB m i y | _ => false)
  | .int n => (match x with | .Constant (.int k) _ _ => decide (n = k) | _ => false)
  | .bl b => (match x with | .Constant (.bool k) _ _ => decide (b = k) | _ => false)
  | .non => (match x with | .Constant .none _ _ => true | _ => false)
  | .str s => (match x with | .Constant (.str k) _ _ => decide (s = k) | _ => false)
  | .gint y n => (match x with | .Name z _ => decide (z = y) && gl m.sc y && m.G.contains (y, n) && !(y == ("__debug__" : Str)) | _ => false)
  | .op o es => (match shape m.sc o x with | some xs => mtchs m es xs | none => false)
  | .chn a o1 b o2 d => (match x with | .Compare x [c1, c2] [y, z] _ => cmpB o1 c1 && cmpB o2 c2 && mtch m a x && mtch m b y && mtch m d z | _ => false)
  | .and a b => (match x with
    | .BoolOp .And [x, y] _ => mtch m a x && mtch m b y
    | .BoolOp .And (x :: y :: z :: r) p => mtch m a x && isAnd b && mtch m b (.BoolOp .And (y :: z :: r) p)
    | _ => false)
  | .or a b => (match x with
    | .BoolOp .Or [x, y] _ => mtch m a x && mtch m b y
    | .BoolOp .Or (x :: y :: z :: r) p => mtch m a x && isOr b && mtch m b (.BoolOp .Or (y :: z :: r) p)
    | _ => false)
  | .not a => (match x with | .UnaryOp .Not x _ => mtch m a x | _ => false)
  | .ite d a b => (match x with | .IfExp x y z _ => tst d && mtch m d x && mtch m a y && mtch m b z | _ => false)
  | .call f es => (match x with
    | .Call (.Name y _) as [] _ => (match m.fs f with | some (n, _, _) => decide (y = n) && gl m.sc n && !(n == ("__debug__" : Str)) && mtchs m es as | none => false)
    | _ => false)
  | .callk f es ks => (match x with
    | .Call (.Name y _) [] kws _ => (match m.fs f, kwNames kws with
      | some (n, ps, kk), some ns => kk.contains ks && decide (y = n) && gl m.sc n && !(n == ("__debug__" : Str)) && decide (ks.map (fun j => ps[j]?) = ns.map some) && mtchs m es (kwVals kws)
      | _, _ => false)
    | _ => false)
  | .app i e => (match x with | .Call (.Attribute (.Name y _) a p) [z] [] q => decide (a = "append") && p.endLine == q.line && nmB m i y && mtch m e z | _ => false)
  | .pop i => (match x with | .Call (.Attribute (.Name y _) a p) [] [] q => decide (a = "pop") && p.endLine == q.line && nmB m i y | _ => false)
  | .popi i e => (match x with | .Call (.Attribute (.Name y _) a p) [z] [] q => decide (a = "pop") && p.endLine == q.line && nmB m i y && mtch m e z | _ => false)
  | .comp t own k es cs e => (match x with
    | .ListComp y [⟨tg, iter, ifs, n⟩] scope _ => decide (n = 0) && (match itShape m.sc tg k iter with
      | some xs => mtchs m es xs
      | none => false) && blkC m.N m.sc scope (own.map fun i => (m.N.getD i Str.empty, i)) && mTg (m.blk scope) t tg && mtchs (m.blk scope) cs ifs && tstL cs && mtch (m.blk scope) e y
    | _ => false)
  | .comp2 t own k es cs t2 own2 k2 es2 cs2 e => (match x with
    | .ListComp y [⟨tg, iter, ifs, n⟩, ⟨tg2, iter2, ifs2, n2⟩] scope _ => decide (n = 0) && decide (n2 = 0) && (match itShape m.sc tg k iter with
      | some xs => mtchs m es xs
      | none => false) && blkC m.N m.sc scope (own.map fun i => (m.N.getD i Str.empty, i)) && own2.all (fun i => decide (i ∈ own)) && mTg (m.blk scope) t tg && mtchs (m.blk scope) cs ifs && tstL cs && (match itShape (m.blk scope).sc tg2 k2 iter2 with
      | some xs => mtchs (m.blk scope) es2 xs
      | none => false) && mTg (m.blk scope) t2 tg2 && mtchs (m.blk scope) cs2 ifs2 && tstL cs2 && mtch (m.blk scope) e y
    | _ => false)
  | .scal e => mtch m e x
  | .tall _ e => mtch m e x
  | .compO t own i cs e => (match x with
    | .ListComp y [⟨tg, iter, ifs, n⟩] scope _ => decide (n = 0) && (match iter with
      | .Name z _ => nmB m i z
      | _ => false) && blkC m.N m.sc scope (own.map fun i => (m.N.getD i Str.empty, i)) && mTg (m.blk scope) t tg && mtchs (m.blk scope) cs ifs && tstL cs && mtch (m.blk scope) e y
    | _ => false)
  | .appR i e => (match x with | .Call (.Attribute (.Name y _) a p) [z] [] q => decide (a = "append") && p.endLine == q.line && nmB m i y && mtch m e z | _ => false)
def mtchs (m : MC) (es : List E) (xs : List Expr) : Bool := match es with
  | [] => xs.isEmpty
  | e :: es => (match xs with | x :: xs => mtch m e x && mtchs m es xs | [] => false)
end
/-- a context that fits -/
structure FAt (X : Cx) (c : TC) (f : Nat) (n : Str) (ps : List Str) (kk : List (List Nat)) : Prop where
  ex : ∃ (a : Addr) (fd : FuncData) (k : Nat), FnG X.prog X.w X.K X.mg X.base k a fd ps (c.sp f) ∧ Room k X.A ∧ X.mg n = some (.ref a) ∧ PySem.W.keepIn X.K (.ref a) = true ∧ Binds X.K fd ps [] ∧
    ∀ ks ∈ kk, ∀ ns : List Str, ks.map (fun j => ps[j]?) = ns.map some → KwB X.K fd ps ns ks
structure XOk (m : MC) (c : TC) (X : Cx) : Prop where
  N : X.N = m.N
  nd : m.N.Nodup
  sc : X.env.scope = m.sc
  fn : ∀ x, m.sc.names.lookup x = some .cell → m.fn x = true → X.fn x = true
  O : OpX X
  K : X.K = c.K
  tk : Takes X c.W
  fs : ∀ f n ps kk, m.fs f = some (n, ps, kk) → FAt X c f n ps kk
  G : ∀ x n, (x, n) ∈ m.G → ∃ t, X.mg x = some (.int n t)
section
variable {m : MC} {c : TC} {X : Cx}
theorem vis_of {x : Str} (O : XOk m c X) (h : visB m.sc x = true) : Vis X.env.scope x := by
  rw [O.sc]
  unfold visB at h
  split at h
  · rename_i e; exact .inl e
  · rename_i e; exact .inr (.inl e)
  · rename_i e; exact .inr (.inr e)
  · cases h
theorem loc_of {x : Str} (O : XOk m c X) (h : locB m x = true) : Loc X.env.scope x ∧ (X.fn x = true ∨ X.env.scope.names.lookup x = some .local) := by
  rw [O.sc]
  unfold locB at h
  split at h
  · rename_i e; exact ⟨.inl e, .inr e⟩
  · rename_i e; exact ⟨.inr e, .inl (O.fn x e h)⟩
  · cases h
theorem pe_nm {i : Nat} {x : Str} {p : Pos} (O : XOk m c X) (h : nmB m i x = true) : PE X (.Name x p) (tVar i) := by
  unfold nmB at h
  simp only [Bool.and_eq_true, decide_eq_true_eq, Bool.not_eq_true'] at h
  obtain ⟨⟨⟨h1, h2⟩, h3⟩, h4⟩ := h
  exact pe_var (by rw [O.N]; exact h1) (vis_of O h2) h3 h4
theorem pg_nm {i : Nat} {x : Str} {p : Pos} (O : XOk m c X) (h : stB m i x = true) : PG X (.Name x p) (gName i) := by
  unfold stB at h
  simp only [Bool.and_eq_true, decide_eq_true_eq] at h
  obtain ⟨h1, h2⟩ := loc_of O h.2
  exact pg_name (by rw [O.N]; exact O.nd) (by rw [O.N]; exact h.1) h1 h2
theorem pgs_nms (O : XOk m c X) : ∀ {is : List Nat} {es : List Expr}, mTgs m is es = true → PGs X es (tTg.gNms is) ∧ (assignEach es X.env).length = is.length ∧ (assignEach es X.env).findIdx? (·.1) = none
  | [], es, h => by
    cases es with
    | nil => exact ⟨pgs_nil, rfl, rfl⟩
    | cons e es => simp [mTgs] at h
  | i :: is, es, h => by
    cases es with
    | nil => simp [mTgs] at h
    | cons e es =>
      cases e <;> simp only [mTgs, Bool.false_eq_true] at h
      rw [Bool.and_eq_true] at h
      obtain ⟨h1, h2, h3⟩ := pgs_nms O h.2
      refine ⟨pgs_cons (pg_nm O h.1) h1 rfl, ?_, ?_⟩
      · show (assignEach es X.env).length + 1 = is.length + 1
        rw [h2]
      · show ((false, _) :: assignEach es X.env).findIdx? (·.1) = none
        rw [List.findIdx?_cons]
        simp [h3]
theorem pg_tg (O : XOk m c X) {t : Tg} {e : Expr} (h : mTg m t e = true) : PG X e (tTg c.K t) := by
  cases t with
  | nm i =>
    cases e <;> simp only [mTg, Bool.false_eq_true] at h
    exact pg_nm O h
  | tp is =>
    cases e <;> simp only [mTg, Bool.false_eq_true] at h
    obtain ⟨h1, h2, h3⟩ := pgs_nms O h
    rw [← O.K]
    exact pg_or (pg_tup O.O.calm h1 h2 h3) (pg_unl O.O.calm h1 h2 h3)
theorem and_eq (ta tb : TE) : tB (tAndV ta tb) = tAnd (tB ta) (tB tb) := by
  funext σ H Q
  unfold tB tAndV tAnd
  congr 1
  funext x H1
  apply propext
  constructor
  · rintro ⟨k, e, q⟩
    refine ⟨k, e, ?_⟩
    cases k with
    | true => simpa using q
    | false =>
      obtain ⟨k2, e2, q2⟩ := (by simpa using q : ∃ c, V.bl false = V.bl c ∧ Q c H1)
      cases e2
      simpa using q2
  · rintro ⟨k, e, q⟩
    refine ⟨k, e, ?_⟩
    cases k with
    | true => simpa using q
    | false => simpa using q
theorem or_eq (ta tb : TE) : tB (tOrV ta tb) = tOr (tB ta) (tB tb) := by
  funext σ H Q
  unfold tB tOrV tOr
  congr 1
  funext x H1
  apply propext
  constructor
  · rintro ⟨k, e, q⟩
    refine ⟨k, e, ?_⟩
    cases k with
    | true => simpa using q
    | false => simpa using q
  · rintro ⟨k, e, q⟩
    refine ⟨k, e, ?_⟩
    cases k with
    | true => simpa using q
    | false => simpa using q
theorem not_eq' (ta : TE) : tB (tNotV ta) = tNot (tB ta) := by
  funext σ H Q
  unfold tB tNotV tNot
  congr 1
  funext x H1
  apply propext
  constructor
  · rintro ⟨k, e, k2, e2, q⟩
    cases e2
    exact ⟨k, e, q⟩
  · rintro ⟨k, e, q⟩
    exact ⟨k, e, _, rfl, q⟩
structure RE (X : Cx) (x : Expr) (e : E) (t : TE) : Prop where
  pe : PE X x t
  ns : ∀ v p, x ≠ .Starred v p
  pt : tst e = true → PT X x (tB t)
  pw : tst e = true → (isAnd e || isOr e) = true → PW X x (tB t)
theorem re_plain {x : Expr} {e : E} {t : TE} (h : PE X x t) (ns : ∀ v p, x ≠ .Starred v p) (he : ∀ whole, isTrue x X.env whole = (do let v ← whole; standAt x.pos; holding [v] (truthy v))) (nb : (isAnd e || isOr e) = false) : RE X x e t :=
  ⟨h, ns, fun _ => pt_val h he, fun _ z => by rw [nb] at z; cases z⟩
theorem set_no {e : Expr} (h : isSetE e = false) (env : PySem.Env) (x : Value) : foldedSetIterable e env x = pure x := by
  cases e <;> first | rfl | (simp [isSetE] at h)

theorem pi_it (O : XOk m c X) {tg iter : Expr} {k : ItK} {xs : List Expr} {ts : List TE} (h : itShape m.sc tg k iter = some xs) (p : PEs X xs ts) : PI X tg iter (tIt c.K k ts) ∧ ∀ (env : PySem.Env) (x : Value), foldedSetIterable iter env x = pure x := by
  have hc := O.O.calm
  rw [← O.K]
  rw [← O.sc] at h
  cases k with
  | list =>
    simp only [itShape] at h; split at h <;> cases h
    rename_i e
    obtain _ | ⟨ha, na, _ | _⟩ := p
    exact ⟨pi_list ha, fun _ _ => set_no (by simpa using e) _ _⟩
  | tup =>
    simp only [itShape] at h; split at h <;> cases h
    rename_i e
    obtain _ | ⟨ha, na, _ | _⟩ := p
    exact ⟨pi_tup ha, fun _ _ => set_no (by simpa using e) _ _⟩
  | str =>
    simp only [itShape] at h; split at h <;> cases h
    rename_i e
    obtain _ | ⟨ha, na, _ | _⟩ := p
    exact ⟨pi_str ha, fun _ _ => set_no (by simpa using e) _ _⟩
  | r1 =>
    simp only [itShape] at h
    split at h
    · split at h <;> cases h
      rename_i e1
      obtain ⟨rfl, hg⟩ := isGl_of e1
      obtain _ | ⟨ha, na, _ | _⟩ := p
      exact ⟨pi_range1 (glX hg) (blt_of O.O) (pa_cons ha pa_nil (star_no na _ _)) (star_no na _ _), fun _ _ => rfl⟩
    · cases h
  | r2 =>
    simp only [itShape] at h
    split at h
    · split at h <;> cases h
      rename_i e1
      obtain ⟨rfl, hg⟩ := isGl_of e1
      obtain _ | ⟨ha, na, _ | ⟨hb, nb, _ | _⟩⟩ := p
      exact ⟨pi_range2 (glX hg) (blt_of O.O) (pa_cons ha (pa_cons hb pa_nil (star_no nb _ _)) (star_no na _ _)) (by rw [star_no na, star_no nb]; rfl) (by rw [star_no nb]; rfl), fun _ _ => rfl⟩
    · cases h
  | r3 =>
    simp only [itShape] at h
    split at h
    · split at h <;> cases h
      rename_i e1
      obtain ⟨rfl, hg⟩ := isGl_of e1
      obtain _ | ⟨ha, na, _ | ⟨hb, nb, _ | ⟨hd, nd, _ | _⟩⟩⟩ := p
      exact ⟨pi_range3 (glX hg) (blt_of O.O) (pa_cons ha (pa_cons hb (pa_cons hd pa_nil (star_no nd _ _)) (star_no nb _ _)) (star_no na _ _)) (star_no na _ _) (by rw [star_no nb, star_no nd]; rfl), fun _ _ => rfl⟩
    · cases h
  | enum =>
    simp only [itShape] at h
    split at h
    · split at h <;> cases h
      rename_i e1
      obtain ⟨rfl, hg⟩ := isGl_of e1
      obtain _ | ⟨ha, na, _ | _⟩ := p
      exact ⟨pi_enum (glX hg) (blt_of O.O) (pa_cons ha pa_nil (star_no na _ _)) (star_no na _ _), fun _ _ => rfl⟩
    · cases h
  | zip st =>
    simp only [itShape] at h
    split at h
    · split at h <;> cases h
      rename_i e1
      obtain ⟨rfl, hg⟩ := isGl_of e1
      obtain _ | ⟨ha, na, _ | ⟨hb, nb, _ | _⟩⟩ := p
      exact ⟨RZ.pi_zipA (glX hg) (blt_of O.O) (pa_cons ha (pa_cons hb pa_nil (star_no nb _ _)) (star_no na _ _)) (star_no na _ _) (by rw [star_no nb]; rfl), fun _ _ => rfl⟩
    · cases h
  | rev =>
    simp only [itShape] at h
    split at h
    · split at h <;> cases h
      rename_i e1
      obtain ⟨rfl, hg⟩ := isGl_of e1
      obtain _ | ⟨ha, na, _ | _⟩ := p
      exact ⟨pi_reversed (glX hg) (blt_of O.O) (pa_cons ha pa_nil (star_no na _ _)) (star_no na _ _), fun _ _ => rfl⟩
    · cases h
/-- within a comprehension's block -/
theorem blk_ok (O : XOk m c X) {scope : Scope} {s : Shared} {H : Hp} {C : Addr} {cl : List (Str × Addr)} {fp : List Addr} : XOk (m.blk scope) c.inn (X.blk s H scope (compEnvC scope cl C X.env) fp) where
  N := O.N
  nd := O.nd
  sc := by rw [← show relS scope X.env.scope = (m.blk scope).sc by rw [O.sc]; rfl]; rfl
  fn := fun x _ h => h
  O := ⟨O.O.calm, O.O.units, O.O.guards, O.O.blt⟩
  K := O.K
  tk := L2.takes0
  fs := fun f n ps kk h => ⟨(O.fs f n ps kk h).ex⟩
  G := O.G
end
end OH

namespace OH
open PySem PySem.Spec PyProof.Rows L2
theorem cmpR {X : Cx} {o : Op} {p : CmpOp} (h : cmpB o p = true) : OpR X (compareOp p) (rO2 X.K o) ∧ p ≠ .In ∧ p ≠ .NotIn := by
  cases o <;> simp only [cmpB, Bool.false_eq_true, decide_eq_true_eq] at h <;> subst h
  · exact ⟨op_lt, by decide, by decide⟩
  · exact ⟨op_le, by decide, by decide⟩
  · exact ⟨op_gt, by decide, by decide⟩
  · exact ⟨op_ge, by decide, by decide⟩
theorem kw_split {X : Cx} : ∀ {kws : List Keyword} {ns : List Str} {ts : List TE}, kwNames kws = some ns → PEs X (kwVals kws) ts → PKs X kws ns ts
  | [], ns, ts, h, p => by
    simp only [kwNames, Option.some.injEq] at h
    subst h
    cases p
    exact .nil
  | ⟨some n, e, q⟩ :: r, ns, ts, h, p => by
    simp only [kwNames] at h
    cases hr : kwNames r with
    | none => rw [hr] at h; cases h
    | some ms =>
      rw [hr] at h
      cases h
      cases p with
      | cons h1 _ rest => exact .cons h1 (kw_split hr rest)
  | ⟨none, e, q⟩ :: r, ns, ts, h, p => by simp [kwNames] at h
theorem itShape_set {sc : Scope} {tg iter : Expr} {k : ItK} {xs : List Expr} (h : itShape sc tg k iter = some xs) : ∀ (env : PySem.Env) (x : Value), foldedSetIterable iter env x = pure x := by
  intro env x
  by_cases hs : isSetE iter = false
  · exact set_no hs env x
  · exfalso
    cases iter <;> first | exact hs rfl | skip
    cases k <;> first | (simp [itShape, isSetE] at h; done) | skip
    all_goals (cases tg <;> simp [itShape] at h)
mutual
theorem peE : ∀ (e : E) {m : MC} {c : TC} {X : Cx} {x : Expr}, XOk m c X → mtch m e x = true → RE X x e (tE c e)
  | .var i, m, c, X, x, O, h => by
    cases x <;> simp only [mtch, Bool.false_eq_true] at h
    exact re_plain (pe_nm O h) (fun _ _ z => nomatch z) (fun _ => rfl) rfl
  | .vin i, m, c, X, x, O, h => by
    cases x <;> simp only [mtch, Bool.false_eq_true] at h
    exact re_plain (pe_nm O h) (fun _ _ z => nomatch z) (fun _ => rfl) rfl
  | .mov i, m, c, X, x, O, h => by
    cases x <;> simp only [mtch, Bool.false_eq_true] at h
    exact re_plain (pe_nm O h) (fun _ _ z => nomatch z) (fun _ => rfl) rfl
  | .ref i, m, c, X, x, O, h => by
    cases x <;> simp only [mtch, Bool.false_eq_true] at h
    exact re_plain (pe_nm O h) (fun _ _ z => nomatch z) (fun _ => rfl) rfl
  | .int n, m, c, X, x, O, h => by
    simp only [mtch] at h
    split at h
    · have e := of_decide_eq_true h
      subst e
      exact re_plain pe_int (fun _ _ z => nomatch z) (fun _ => rfl) rfl
    · cases h
  | .bl b, m, c, X, x, O, h => by
    simp only [mtch] at h
    split at h
    · have e := of_decide_eq_true h
      subst e
      exact re_plain pe_bl (fun _ _ z => nomatch z) (fun _ => rfl) rfl
    · cases h
  | .non, m, c, X, x, O, h => by
    simp only [mtch] at h
    split at h
    · exact re_plain pe_non (fun _ _ z => nomatch z) (fun _ => rfl) rfl
    · cases h
  | .str b, m, c, X, x, O, h => by
    simp only [mtch] at h
    split at h
    · have e := of_decide_eq_true h
      subst e
      exact re_plain pe_str (fun _ _ z => nomatch z) (fun _ => rfl) rfl
    · cases h
  | .gint y n, m, c, X, x, O, h => by
    simp only [mtch] at h
    split at h
    · simp only [Bool.and_eq_true, decide_eq_true_eq, Bool.not_eq_true', gl, beq_iff_eq, List.contains_iff_mem] at h
      obtain ⟨⟨⟨rfl, h1⟩, h2⟩, h3⟩ := h
      obtain ⟨t, hm⟩ := O.G _ _ h2
      exact re_plain (pe_glob (by show X.env.scope.names.lookup _ = _; rw [O.sc]; exact h1) hm ⟨t, rfl⟩ h3) (fun _ _ z => nomatch z) (fun _ => rfl) rfl
    · cases h
  | .op o es, m, c, X, x, O, h => by
    simp only [mtch] at h
    split at h
    · rename_i xs hs
      have p := peEl es O h
      rw [← O.sc] at hs
      have q := opA O.O hs p
      rw [O.K] at q
      refine ⟨q.1, ?_, fun _ => q.2, fun _ z => by simp [isAnd, isOr] at z⟩
      intro v p z
      subst z
      cases o with
      | sl lo hi => cases lo <;> cases hi <;> simp [shape] at hs
      | _ => simp [shape] at hs
    · cases h
  | .chn a o1 b o2 d, m, c, X, x, O, h => by
    simp only [mtch] at h
    split at h
    · simp only [Bool.and_eq_true] at h
      obtain ⟨⟨⟨⟨h1, h2⟩, h3⟩, h4⟩, h5⟩ := h
      obtain ⟨r1, n1, n1'⟩ := cmpR (X := X) h1
      obtain ⟨r2, n2, n2'⟩ := cmpR (X := X) h2
      have A := peE a O h3
      have B := peE b O h4
      have D := peE d O h5
      rw [O.K] at r1 r2
      exact ⟨pe_chain r1 r2 A.pe B.pe D.pe (nobehind _ n2 n2'), fun _ _ z => (nomatch z), fun _ => pt_chain r1 r2 A.pe B.pe D.pe (nobehind _ n2 n2'), fun _ z => by simp [isAnd, isOr] at z⟩
    · cases h
  | .and a b, m, c, X, x, O, h => by
    simp only [mtch] at h
    split at h
    · rw [Bool.and_eq_true] at h
      have A := peE a O h.1
      have B := peE b O h.2
      have w : tst (.and a b) = true → PW X (.BoolOp .And [_, _] ‹Pos›) (tB (tAndV (tE c a) (tE c b))) := fun z => by
        unfold tst at z
        rw [Bool.and_eq_true] at z
        rw [and_eq]
        exact pw_and (A.pt z.1) (pw_and1 (B.pt z.2))
      exact ⟨pe_and A.pe (pe_one B.pe), fun _ _ z => (nomatch z), fun z => (w z).pt, fun z _ => w z⟩
    · simp only [Bool.and_eq_true] at h
      obtain ⟨⟨h1, h2⟩, h3⟩ := h
      have A := peE a O h1
      have B := peE b O h3
      have w : tst (.and a b) = true → PW X (.BoolOp .And (_ :: _ :: _ :: _) ‹Pos›) (tB (tAndV (tE c a) (tE c b))) := fun z => by
        unfold tst at z
        rw [Bool.and_eq_true] at z
        rw [and_eq]
        exact pw_and (A.pt z.1) (B.pw z.2 (by rw [h2]; rfl))
      exact ⟨pe_and A.pe B.pe, fun _ _ z => (nomatch z), fun z => (w z).pt, fun z _ => w z⟩
    · cases h
  | .or a b, m, c, X, x, O, h => by
    simp only [mtch] at h
    split at h
    · rw [Bool.and_eq_true] at h
      have A := peE a O h.1
      have B := peE b O h.2
      have w : tst (.or a b) = true → PW X (.BoolOp .Or [_, _] ‹Pos›) (tB (tOrV (tE c a) (tE c b))) := fun z => by
        unfold tst at z
        rw [Bool.and_eq_true] at z
        rw [or_eq]
        exact pw_or (A.pt z.1) (pw_or1 (B.pt z.2))
      exact ⟨pe_or A.pe (pe_one B.pe), fun _ _ z => (nomatch z), fun z => (w z).pt, fun z _ => w z⟩
    · simp only [Bool.and_eq_true] at h
      obtain ⟨⟨h1, h2⟩, h3⟩ := h
      have A := peE a O h1
      have B := peE b O h3
      have w : tst (.or a b) = true → PW X (.BoolOp .Or (_ :: _ :: _ :: _) ‹Pos›) (tB (tOrV (tE c a) (tE c b))) := fun z => by
        unfold tst at z
        rw [Bool.and_eq_true] at z
        rw [or_eq]
        exact pw_or (A.pt z.1) (B.pw z.2 (by rw [h2, Bool.or_true]))
      exact ⟨pe_or A.pe B.pe, fun _ _ z => (nomatch z), fun z => (w z).pt, fun z _ => w z⟩
    · cases h
  | .not a, m, c, X, x, O, h => by
    simp only [mtch] at h
    split at h
    · have A := peE a O h
      exact ⟨pe_not A.pe, fun _ _ z => (nomatch z), fun z => by
        have q := pt_not (pos := ‹Pos›) (A.pt z)
        rw [← not_eq'] at q
        exact q, fun _ z => by simp [isAnd, isOr] at z⟩
    · cases h
  | .ite d a b, m, c, X, x, O, h => by
    simp only [mtch] at h
    split at h
    · simp only [Bool.and_eq_true] at h
      obtain ⟨⟨⟨h1, h2⟩, h3⟩, h4⟩ := h
      have D := peE d O h2
      have A := peE a O h3
      have B := peE b O h4
      exact ⟨pe_ifExp (D.pt h1) A.pe B.pe, fun _ _ z => (nomatch z), fun z => (nomatch z), fun z => (nomatch z)⟩
    · cases h
  | .call f es, m, c, X, x, O, h => by
    simp only [mtch] at h
    split at h
    · split at h
      · rename_i hf
        simp only [Bool.and_eq_true, decide_eq_true_eq, Bool.not_eq_true', gl, beq_iff_eq] at h
        obtain ⟨⟨⟨rfl, h1⟩, h2⟩, h3⟩ := h
        obtain ⟨a, fd, k, F, hr, hm, hk, hb, _⟩ := (O.fs _ _ _ _ hf).ex
        have p := peEl es O h3
        rw [← O.sc] at h1
        have hgl : Gl X _ := h1
        refine re_plain ?_ (fun _ _ z => nomatch z) (fun _ => rfl) rfl
        cases es with
        | nil =>
          cases p
          exact pe_G0 F O.O.guards hr hgl hm hk hb O.tk h2
        | cons e es =>
          cases p with
          | cons p1 p2 p3 => exact pe_G F O.O.guards hr hgl hm hk hb O.tk (.cons p1 p2 p3) h2
      · cases h
    · cases h
  | .callk f es ks, m, c, X, x, O, h => by
    simp only [mtch] at h
    split at h
    · split at h
      · rename_i hf hn
        simp only [Bool.and_eq_true, decide_eq_true_eq, Bool.not_eq_true', gl, beq_iff_eq, List.contains_iff_mem] at h
        obtain ⟨⟨⟨⟨⟨hkk, rfl⟩, h1⟩, h2⟩, h3⟩, h4⟩ := h
        obtain ⟨a, fd, k, F, hr, hm, hk, _, hb⟩ := (O.fs _ _ _ _ hf).ex
        have p := peEl es O h4
        rw [← O.sc] at h1
        have hgl : Gl X _ := h1
        have hlen := congrArg List.length h3
        rw [List.length_map, List.length_map] at hlen
        refine re_plain (t := fun σ H Q => seqT (tEl c es) σ H fun vs H1 => vs.length = ks.length ∧ c.sp _ (arrange vs ks) H1 Q (WE c.W σ)) ?_ (fun _ _ z => nomatch z) (fun _ => rfl) rfl
        rw [hlen]
        exact pe_GK F O.O.guards hr hgl hm hk (hb ks hkk _ h3) O.tk (kw_split hn p) h2
      · cases h
    · cases h
  | .app i e, m, c, X, x, O, h => by
    simp only [mtch] at h
    split at h
    · simp only [Bool.and_eq_true, decide_eq_true_eq] at h
      obtain ⟨⟨⟨rfl, h1⟩, h2⟩, h3⟩ := h
      have A := peE e O h3
      rw [show tE c (.app i e) = tBM X.K "list" rAppend (tVar i) (tCons (tE c e) tNil) by rw [O.K]; rfl]
      exact re_plain (pe_bm PySem.F.plainAttrs_list PySem.F.slot_list_append PySem.F.type_list_append mt_append (pe_nm O h2) (pa_cons A.pe pa_nil (star_no A.ns _ _)) rfl (few1 A.ns) h1 (star_no A.ns _ _) rfl) (fun _ _ z => nomatch z) (fun _ => rfl) rfl
    · cases h
  | .pop i, m, c, X, x, O, h => by
    simp only [mtch] at h
    split at h
    · simp only [Bool.and_eq_true, decide_eq_true_eq] at h
      obtain ⟨⟨rfl, h1⟩, h2⟩ := h
      rw [show tE c (.pop i) = tBM0 X.K "list" rPop (tVar i) by rw [O.K]; rfl]
      exact re_plain (pe_bm0 PySem.F.plainAttrs_list PySem.F.slot_list_pop PySem.F.type_list_pop mt_pop (pe_nm O h2) rfl h1) (fun _ _ z => nomatch z) (fun _ => rfl) rfl
    · cases h
  | .popi i e, m, c, X, x, O, h => by
    simp only [mtch] at h
    split at h
    · simp only [Bool.and_eq_true, decide_eq_true_eq] at h
      obtain ⟨⟨⟨rfl, h1⟩, h2⟩, h3⟩ := h
      have A := peE e O h3
      rw [show tE c (.popi i e) = tBM X.K "list" rPopAt (tVar i) (tCons (tE c e) tNil) by rw [O.K]; rfl]
      exact re_plain (pe_bm PySem.F.plainAttrs_list PySem.F.slot_list_pop PySem.F.type_list_pop mt_popAt (pe_nm O h2) (pa_cons A.pe pa_nil (star_no A.ns _ _)) rfl (few1 A.ns) h1 (star_no A.ns _ _) rfl) (fun _ _ z => nomatch z) (fun _ => rfl) rfl
    · cases h
  | .comp t own k es cs e, m, c, X, x, O, h => by
    simp only [mtch] at h
    split at h
    · simp only [Bool.and_eq_true, decide_eq_true_eq] at h
      obtain ⟨⟨⟨⟨⟨⟨rfl, h1⟩, h2⟩, h3⟩, h4⟩, h5⟩, h6⟩ := h
      split at h1
      · rename_i hs
        have p := peEl es O h1
        obtain ⟨pi, fs⟩ := pi_it O hs p
        have hN : X.N.Nodup := by rw [O.N]; exact O.nd
        have blk := blkOk_by h2
        rw [← O.N, ← O.sc] at blk
        have pg := fun (s : Shared) (H : Hp) (C : Addr) (cl : List (Str × Addr)) (fp : List Addr) => pg_tg (blk_ok O (scope := ‹Scope›) (s := s) (H := H) (C := C) (cl := cl) (fp := fp)) h3
        have pt := fun (s : Shared) (H : Hp) (C : Addr) (cl : List (Str × Addr)) (fp : List Addr) => ptC cs (blk_ok O (scope := ‹Scope›) (s := s) (H := H) (C := C) (cl := cl) (fp := fp)) h4 h5
        have pe := fun (s : Shared) (H : Hp) (C : Addr) (cl : List (Str × Addr)) (fp : List Addr) => (peE e (blk_ok O (scope := ‹Scope›) (s := s) (H := H) (C := C) (cl := cl) (fp := fp)) h6).pe
        have q := pe_lc (pos := ‹Pos›) O.O.calm hN pi blk pg pt pe (fs _)
        rw [List.map_map] at q
        have own' : List.map ((fun p : Str × Nat => p.2) ∘ fun i => (X.N.getD i Str.empty, i)) own = own := by
          show List.map (fun i => i) own = own
          exact List.map_id' own
        rw [own'] at q
        exact re_plain q (fun _ _ z => nomatch z) (fun _ => rfl) rfl
      · cases h1
    · cases h
  | .comp2 t own k es cs t2 own2 k2 es2 cs2 e, m, c, X, x, O, h => by
    simp only [mtch] at h
    split at h
    · simp only [Bool.and_eq_true, decide_eq_true_eq, List.all_eq_true] at h
      obtain ⟨⟨⟨⟨⟨⟨⟨⟨⟨⟨⟨⟨rfl, rfl⟩, h1⟩, h2⟩, h3⟩, h4⟩, h5⟩, h6⟩, h7⟩, h8⟩, h9⟩, h10⟩, h11⟩ := h
      split at h1
      · rename_i hs
        split at h7
        · rename_i hs2
          have p := peEl es O h1
          obtain ⟨pi, fs⟩ := pi_it O hs p
          have hN : X.N.Nodup := by rw [O.N]; exact O.nd
          have blk := blkOk_by h2
          rw [← O.N, ← O.sc] at blk
          have B := fun (s : Shared) (H : Hp) (C : Addr) (cl : List (Str × Addr)) (fp : List Addr) => blk_ok O (scope := ‹Scope›) (s := s) (H := H) (C := C) (cl := cl) (fp := fp)
          have pg := fun (s : Shared) (H : Hp) (C : Addr) (cl : List (Str × Addr)) (fp : List Addr) => pg_tg (B s H C cl fp) h4
          have pt := fun (s : Shared) (H : Hp) (C : Addr) (cl : List (Str × Addr)) (fp : List Addr) => ptC cs (B s H C cl fp) h5 h6
          have pe2 := fun (s : Shared) (H : Hp) (C : Addr) (cl : List (Str × Addr)) (fp : List Addr) => peEl es2 (B s H C cl fp) h7
          have pi2 := fun (s : Shared) (H : Hp) (C : Addr) (cl : List (Str × Addr)) (fp : List Addr) => (pi_it (B s H C cl fp) hs2 (pe2 s H C cl fp)).1
          have pg2 := fun (s : Shared) (H : Hp) (C : Addr) (cl : List (Str × Addr)) (fp : List Addr) => pg_tg (B s H C cl fp) h8
          have pt2 := fun (s : Shared) (H : Hp) (C : Addr) (cl : List (Str × Addr)) (fp : List Addr) => ptC cs2 (B s H C cl fp) h9 h10
          have pe := fun (s : Shared) (H : Hp) (C : Addr) (cl : List (Str × Addr)) (fp : List Addr) => (peE e (B s H C cl fp) h11).pe
          have own' : List.map ((fun p : Str × Nat => p.2) ∘ fun i => (X.N.getD i Str.empty, i)) own = own := by
            show List.map (fun i => i) own = own
            exact List.map_id' own
          have q := pe_lc2 (vs1 := own2) (pos := ‹Pos›) O.O.calm hN pi blk (fun i hi => by rw [List.map_map, own']; exact h3 i hi) pg pt pi2 pg2 pt2 pe (fs _) (itShape_set hs2)
          rw [List.map_map, own'] at q
          exact re_plain q (fun _ _ z => nomatch z) (fun _ => rfl) rfl
        · cases h7
      · cases h1
    · cases h
  | .scal e, m, c, X, x, O, h => by
    simp only [mtch] at h
    have A := peE e O h
    exact ⟨A.pe, A.ns, fun z => A.pt z, fun _ z => by simp [isAnd, isOr] at z⟩
  | .tall _ e, m, c, X, x, O, h => by
    simp only [mtch] at h
    have A := peE e O h
    exact ⟨A.pe, A.ns, fun z => A.pt z, fun _ z => by simp [isAnd, isOr] at z⟩
  | .appR i e, m, c, X, x, O, h => by
    simp only [mtch] at h
    split at h
    · simp only [Bool.and_eq_true, decide_eq_true_eq] at h
      obtain ⟨⟨⟨rfl, h1⟩, h2⟩, h3⟩ := h
      have A := peE e O h3
      rw [show tE c (.appR i e) = tBM X.K "list" rAppend (tVar i) (tCons (tE c e) tNil) by rw [O.K]; rfl]
      exact re_plain (pe_bm PySem.F.plainAttrs_list PySem.F.slot_list_append PySem.F.type_list_append mt_append (pe_nm O h2) (pa_cons A.pe pa_nil (star_no A.ns _ _)) rfl (few1 A.ns) h1 (star_no A.ns _ _) rfl) (fun _ _ z => nomatch z) (fun _ => rfl) rfl
    · cases h
  | .compO t own i cs e, m, c, X, x, O, h => by
    simp only [mtch] at h
    split at h
    · simp only [Bool.and_eq_true, decide_eq_true_eq] at h
      obtain ⟨⟨⟨⟨⟨⟨rfl, h1⟩, h2⟩, h3⟩, h4⟩, h5⟩, h6⟩ := h
      split at h1
      · rename_i ps0 xx yy pp
        have pi : ∀ tg, PI X tg (.Name yy pp) (tIt c.K .list [tVar i]) := fun tg => by
          rw [← O.K]
          exact pi_list (pe_nm O h1)
        have hN : X.N.Nodup := by rw [O.N]; exact O.nd
        have blk := blkOk_by h2
        rw [← O.N, ← O.sc] at blk
        have pg := fun (s : Shared) (H : Hp) (C : Addr) (cl : List (Str × Addr)) (fp : List Addr) => pg_tg (blk_ok O (scope := ‹Scope›) (s := s) (H := H) (C := C) (cl := cl) (fp := fp)) h3
        have pt := fun (s : Shared) (H : Hp) (C : Addr) (cl : List (Str × Addr)) (fp : List Addr) => ptC cs (blk_ok O (scope := ‹Scope›) (s := s) (H := H) (C := C) (cl := cl) (fp := fp)) h4 h5
        have pe := fun (s : Shared) (H : Hp) (C : Addr) (cl : List (Str × Addr)) (fp : List Addr) => (peE e (blk_ok O (scope := ‹Scope›) (s := s) (H := H) (C := C) (cl := cl) (fp := fp)) h6).pe
        have q := pe_lc (pos := ps0) O.O.calm hN (pi _) blk pg pt pe (fun _ => rfl)
        have own' : List.map ((fun p : Str × Nat => p.2) ∘ fun i => (X.N.getD i Str.empty, i)) own = own := by
          show List.map (fun i => i) own = own
          exact List.map_id' own
        refine re_plain ?_ (fun _ _ z => nomatch z) (fun _ => rfl) rfl
        rw [List.map_map, own'] at q
        exact q
      · cases h1
    · cases h
theorem peEl : ∀ (es : List E) {m : MC} {c : TC} {X : Cx} {xs : List Expr}, XOk m c X → mtchs m es xs = true → PEs X xs (tEl c es)
  | [], m, c, X, xs, O, h => by
    cases xs with
    | nil => exact .nil
    | cons x xs => simp [mtchs] at h
  | e :: es, m, c, X, xs, O, h => by
    cases xs with
    | nil => simp [mtchs] at h
    | cons x xs =>
      simp only [mtchs, Bool.and_eq_true] at h
      have A := peE e O h.1
      exact .cons A.pe A.ns (peEl es O h.2)
theorem ptC : ∀ (cs : List E) {m : MC} {c : TC} {X : Cx} {xs : List Expr}, XOk m c X → mtchs m cs xs = true → tstL cs = true → PTs X xs (tCs c cs)
  | [], m, c, X, xs, O, h, t => by
    cases xs with
    | nil => exact pts_nil
    | cons x xs => simp [mtchs] at h
  | [e], m, c, X, xs, O, h, t => by
    cases xs with
    | nil => simp [mtchs] at h
    | cons x xs =>
      simp only [mtchs, Bool.and_eq_true] at h
      cases xs with
      | nil => exact pts_one ((peE e O h.1).pt t)
      | cons y ys => simp at h
  | e :: e2 :: es, m, c, X, xs, O, h, t => by simp [tstL] at t
end
end OH

namespace OH
open PySem PySem.Spec PyProof.Rows L2
def tParN (is : List Nat) (ta : TA) : TS := fun D σ H => ta σ H fun vs H1 => vs.length = is.length ∧ D.nx ((is.zip vs).foldl (fun r (p : Nat × V) => r.set p.1 (some p.2)) σ) H1
def ipO (o : Op) : TIp := match o with
  | .add => ipI fun i j => i + j
  | .sub => ipI fun i j => i - j
  | _ => fun _ _ _ _ => False
mutual
def tS (c : TC) : S → TS
  | .asg t e => tAsg (tE c e) (tTg c.K t)
  | .par is es => tParN is (seqT (tEl c es))
  | .sub i k e => tAsg (tE c e) (gSub (tVar i) (tE c k) rSetL)
  | .sub2 i k i2 k2 e e2 => tAsg (tTup (seqT [tE c e, tE c e2])) (gTup c.K 2 (gCons (gSub (tVar i) (tE c k) rSetL) (gCons (gSub (tVar i2) (tE c k2) rSetL) gNil)))
  | .aug _ _ _ => tNever
  | .augs i k o e => tAugS (tVar i) (tE c k) (tE c e) (rIxL c.K) (ipO o) rSetL
  | .ex e => tDrop (tE c e)
  | .ret e => tRet (tE c e)
  | .retN => tRetN
  | .iff d a b => tIfS (tB (tE c d)) (tSs c a) (tSs c b)
  | .whl d b _ => tWhile (tB (tE c d)) (tSs c b)
  | .forr t k es b _ => tFor (tIt c.K k (tEl c es)) (tTg c.K t) (tSs c b)
  | .raise => tNever
  | .pass => tNext
  | .frm s => tS c s
def tSs (c : TC) : List S → TS
  | [] => tNext
  | s :: ss => tSeq (tS c s) (tSs c ss)
end

/-! ### stores in another order -/
def isCmp : Expr → Bool | .ListComp _ _ _ _ | .SetComp _ _ _ _ | .DictComp _ _ _ _ _ => true | _ => false
def funB (sc : Scope) : Bool := match sc.kind with | .function => true | _ => false
theorem blockKind_of {env : PySem.Env} (h : funB env.scope = true) : env.blockKind = .function := by
  have hk : env.scope.kind = .function := by
    unfold funB at h
    split at h
    · assumption
    · cases h
  unfold Env.blockKind
  rw [hk]; rfl
theorem sw_plain {v : Expr} {t : Option Expr} {l : Nat} {env : PySem.Env} (h : isCmp v = false) : swapsWith v t l env = pure false := by
  cases v <;> first | rfl | (simp [isCmp] at h)
def notName : Expr → Bool | .Name _ _ => false | _ => true
theorem sw_tgt {v t : Expr} {l : Nat} {env : PySem.Env} (h : notName t = true) : swapsWith v (some t) l env = pure false := by
  cases t <;> first | (simp [notName] at h; done) | (cases v <;> rfl)
def swB (sc : Scope) (v : Expr) (y : Str) (p : Pos) : Bool := match v with
  | .ListComp _ _ s q => sc.names.lookup y == some .local && p.line == q.line && !(s.names.any fun (n, k) => n == y && (k == .local || k == .cell))
  | .SetComp _ _ _ _ | .DictComp _ _ _ _ _ => true
  | _ => false
theorem sw_name {v : Expr} {y : Str} {p : Pos} {l : Nat} {env : PySem.Env} (hf : funB env.scope = true) (h : swB env.scope v y p = false) : swapsWith v (some (.Name y p)) l env = pure false := by
  have hb := blockKind_of hf
  cases v <;> first | rfl | (simp [swB] at h; done) | skip
  rename_i e gs s q
  unfold swB at h
  unfold swapsWith
  simp only [hb, Expr.pos]
  show (pure ((ScopeKind.function == ScopeKind.function) && (env.scope.names.lookup y == some NameKind.local) && (p.line == q.line) && !(s.names.any fun (n, k) => n == y && (k == .local || k == .cell))) : Sem Bool) = pure false
  have h' : ((ScopeKind.function == ScopeKind.function) && (env.scope.names.lookup y == some NameKind.local) && (p.line == q.line) && !(s.names.any fun (n, k) => n == y && (k == .local || k == .cell))) = false := by
    rw [show (ScopeKind.function == ScopeKind.function) = true from rfl, Bool.true_and]; exact h
  rw [h']
theorem sw_name_t {e : Expr} {gs : List Comprehension} {s : Scope} {q : Pos} {y : Str} {p : Pos} {l : Nat} {env : PySem.Env} (hf : funB env.scope = true) (h : swB env.scope (.ListComp e gs s q) y p = true) : swapsWith (.ListComp e gs s q) (some (.Name y p)) l env = pure true ∧ env.scope.names.lookup y = some .local := by
  have hb := blockKind_of hf
  unfold swB at h
  refine ⟨?_, ?_⟩
  · unfold swapsWith
    simp only [hb, Expr.pos]
    show (pure ((ScopeKind.function == ScopeKind.function) && (env.scope.names.lookup y == some NameKind.local) && (p.line == q.line) && !(s.names.any fun (n, k) => n == y && (k == .local || k == .cell))) : Sem Bool) = pure true
    rw [show (ScopeKind.function == ScopeKind.function) = true from rfl, Bool.true_and]
    exact congrArg pure h
  · simp only [Bool.and_eq_true, beq_iff_eq] at h
    exact h.1.1
def ssLine (ts : List Expr) : Nat := (ts.head?.map (·.pos.line)).getD 0
def ssNames (sc : Scope) (line : Nat) (ts : List Expr) : List Str := ts.filterMap fun
  | .Name id pos => if sc.names.lookup id == some .local && pos.line == line then some id else none
  | _ => none
def starE : Expr → Bool | .Starred .. => true | _ => false
/-- none: not told; some none: in the order; some names: from the right -/
def ssB (sc : Scope) (ts vs : List Expr) : Option (Option (List Str)) :=
  if !(ts.length == 2 || ts.length == 3) || vs.length != ts.length then some none
  else if vs.any starE then none
  else
    let names := ssNames sc (ssLine ts) ts
    if names.length != ts.length || names.eraseDups.length != names.length then some none
    else if vs.all (foldedForSure 8) then some none
    else if vs.all (constantsAlone 8) then none
    else some (some names)
theorem ss_of {ts vs : List Expr} {k k2 : Nat} {p q : Pos} {env : PySem.Env} {r : Option (List Str)} (hf : funB env.scope = true) (h : ssB env.scope ts vs = some r) : swappedStores [.Tuple ts k p] (.Tuple vs k2 q) env = pure r := by
  have hb := blockKind_of hf
  have e1 : (vs.any fun | .Starred .. => true | _ => false) = vs.any starE := by
    congr 1
  have e2 : (ts.filterMap fun | .Name id pos => if env.kindOf id == some .local && pos.line == ssLine ts then some id else none | _ => none) = ssNames env.scope (ssLine ts) ts := rfl
  unfold ssB at h
  unfold swappedStores
  have c1 : (!(ts.length == 2 || ts.length == 3) || vs.length != ts.length || env.blockKind != .function) = (!(ts.length == 2 || ts.length == 3) || vs.length != ts.length) := by
    rw [hb]; simp
  simp only [e1, c1]
  split at h
  · rename_i c
    rw [if_pos c]
    cases h; rfl
  · rename_i c
    rw [if_neg c]
    split at h
    · cases h
    · rename_i c2
      show (if vs.any starE = true then _ else _) = _
      rw [if_neg c2]
      simp only [] at h
      show (if ((ssNames env.scope (ssLine ts) ts).length != ts.length || (ssNames env.scope (ssLine ts) ts).eraseDups.length != (ssNames env.scope (ssLine ts) ts).length) = true then _ else _) = _
      split at h
      · rename_i c3
        rw [if_pos c3]
        cases h; rfl
      · rename_i c3
        rw [if_neg c3]
        split at h
        · rename_i c4
          show (if vs.all (foldedForSure 8) = true then _ else _) = _
          rw [if_pos c4]
          cases h; rfl
        · rename_i c4
          show (if vs.all (foldedForSure 8) = true then _ else _) = _
          rw [if_neg c4]
          split at h
          · cases h
          · rename_i c5
            show (if vs.all (constantsAlone 8) = true then _ else _) = _
            rw [if_neg c5]
            cases h; rfl
def isTupE : Expr → Bool | .Tuple _ _ _ => true | _ => false
theorem ss_plain {ts : List Expr} {v : Expr} {env : PySem.Env} (h : isTupE v = false) : swappedStores ts v env = pure none := by
  unfold swappedStores
  cases v <;> first | (simp [isTupE] at h; done) | skip
  all_goals (cases ts with
    | nil => rfl
    | cons t r => cases t <;> (cases r <;> rfl))
theorem ss_name {t v : Expr} {env : PySem.Env} (h : isTupE t = false) (h2 : (match t with | .List _ _ => false | _ => true) = true) : swappedStores [t] v env = pure none := by
  unfold swappedStores
  cases t <;> first | (simp [isTupE] at h; done) | (simp at h2; done) | skip
  all_goals (cases v <;> rfl)
/-- o[i], lists -/
theorem get_list {X : Cx} : PGet X (rIxL X.K) := by
  intro pins s σ H o i ov iv Q I ro ri h
  obtain ⟨p, xs, k, z, rfl, rfl, hq, he, q⟩ := h
  cases ro
  obtain ⟨t, rfl⟩ := ri
  obtain ⟨its, r, pl, hz⟩ := I.list hq
  obtain ⟨j, h1, h2, h3, h4, h5⟩ := atI_get he
  obtain ⟨w, ew, rw'⟩ := r.get h2
  have hl := r.length
  have hn := line63
  have fin : EP X pins σ Q w s := ⟨z, H, I, rw', q⟩
  by_cases h0 : 0 ≤ k
  · have hj : k.toNat = j := by
      rw [seqIndex_of h0 h5] at h1
      exact Option.some.inj h1
    exact wpAny_getItem_list pl.isList h0 (by omega) (by rw [hj]; simpa using ew) fin
  · have hj : (k + (its.toArray.size : Int)).toNat = j := by
      rw [seqIndex_neg (by omega) h4] at h1
      rw [List.size_toArray, ← hl]
      exact Option.some.inj h1
    exact wpAny_getItem_list_neg pl.isList (by omega) (by rw [List.size_toArray] <;> omega) (by omega) (by rw [hj]; simpa using ew) fin
theorem ip_O {X : Cx} {o : Op} {p : Operator} (h : (match o with | .add => decide (p = .Add) | .sub => decide (p = .Sub) | _ => false) = true) : PIp X p (ipO o) := by
  cases o <;> simp only [Bool.false_eq_true, decide_eq_true_eq] at h <;> subst h
  · exact ip_add
  · exact ip_sub
end OH

namespace OH
open PySem PySem.Spec PyProof.Rows L2
def isCompE : E → Bool | .comp _ _ _ _ _ _ => true | .compO .. => true | .comp2 .. => true | _ => false
def ssOk (sc : Scope) (ts : List Expr) (v : Expr) : Bool := match v with | .Tuple vs _ _ => ssB sc ts vs == some none | _ => true
def loc1 (m : MC) (i : Nat) (x : Str) : Bool := decide (m.N[i]? = some x) && decide (m.sc.names.lookup x = some .local)
mutual
def mS (m : MC) (s : S) (x : Stmt) : Bool := match s with
  | .asg (.nm i) e => (match x with
    | .Assign [.Name y p] v _ => stB m i y && mtch m e v && (!swB m.sc v y p || isCompE e)
    | _ => false)
  | .asg (.tp is) e => (match x with
    | .Assign [.Tuple ts k p] v _ => mTg m (.tp is) (.Tuple ts k p) && mtch m e v && ssOk m.sc ts v
    | _ => false)
  | .par is es => (match is, x with
    | [i, j], .Assign [.Tuple [.Name x1 p1, .Name x2 p2] _ _] (.Tuple [v1, v2] _ _) _ => loc1 m i x1 && loc1 m j x2 && decide (i ≠ j) && mtchs m es [v1, v2] && ssB m.sc [.Name x1 p1, .Name x2 p2] [v1, v2] == some (some [x1, x2])
    | [i, j, l], .Assign [.Tuple [.Name x1 p1, .Name x2 p2, .Name x3 p3] _ _] (.Tuple [v1, v2, v3] _ _) _ => loc1 m i x1 && loc1 m j x2 && loc1 m l x3 && decide (i ≠ j) && decide (i ≠ l) && decide (j ≠ l) && mtchs m es [v1, v2, v3] && ssB m.sc [.Name x1 p1, .Name x2 p2, .Name x3 p3] [v1, v2, v3] == some (some [x1, x2, x3])
    | _, _ => false)
  | .sub i k e => (match x with
    | .Assign [.Subscript (.Name y _) z _] v _ => nmB m i y && mtch m k z && !isSliceE z && mtch m e v
    | _ => false)
  | .sub2 i k i2 k2 e e2 => (match x with
    | .Assign [.Tuple [.Subscript (.Name y q1) z r1, .Subscript (.Name y2 q2) z2 r2] _ _] (.Tuple [v, v2] _ _) _ => nmB m i y && mtch m k z && !isSliceE z && nmB m i2 y2 && mtch m k2 z2 && !isSliceE z2 && mtch m e v && mtch m e2 v2 && ssB m.sc [.Subscript (.Name y q1) z r1, .Subscript (.Name y2 q2) z2 r2] [v, v2] == some none
    | _ => false)
  | .aug _ _ _ => false
  | .augs i k o e => (match x with
    | .AugAssign (.Subscript (.Name y _) z _) p v _ => nmB m i y && mtch m k z && !isSliceE z && (match o with | .add => decide (p = .Add) | .sub => decide (p = .Sub) | _ => false) && mtch m e v
    | _ => false)
  | .ex e => (match x with | .Expr v _ => !isCmp v && mtch m e v | _ => false)
  | .ret e => (match x with | .Return (some v) _ => mtch m e v | _ => false)
  | .retN => (match x with | .Return none _ => true | _ => false)
  | .iff d a b => (match x with | .If t p q _ => tst d && mtch m d t && mSs m a p && mSs m b q | _ => false)
  | .whl d b _ => (match x with | .While t p [] _ => tst d && mtch m d t && mSs m b p | _ => false)
  | .forr t k es b _ => (match x with
    | .For tg it p [] _ => (match itShape m.sc tg k it with | some xs => mtchs m es xs | none => false) && mTg m t tg && mSs m b p
    | _ => false)
  | .raise => (match x with | .Raise _ _ _ => true | _ => false)
  | .pass => (match x with | .Pass _ => true | .Expr (.Constant (.str _) _ _) _ => true | _ => false)
  | .frm s => mS m s x
def mSs (m : MC) (ss : List S) (xs : List Stmt) : Bool := match ss with
  | [] => xs.isEmpty
  | s :: ss => (match xs with | x :: xs => mS m s x && mSs m ss xs | [] => false)
end
section
variable {m : MC} {c : TC} {X : Cx}
theorem comp2_ps (O : XOk m c X) (hf : funB m.sc = true) {i : Nat} {y : Str} {p sp : Pos} {v : Expr} {t t2 : Tg} {own own2 : List Nat} {k k2 : ItK} {es es2 cs cs2 : List E} {e : E} (h : mtch m (.comp2 t own k es cs t2 own2 k2 es2 cs2 e) v = true) (hi : stB m i y = true) (hsw : swB m.sc v y p = true) :
    PS X (.Assign [.Name y p] v sp) (tAsg (tE c (.comp2 t own k es cs t2 own2 k2 es2 cs2 e)) (gName i)) := by
  simp only [mtch] at h
  split at h
  · simp only [Bool.and_eq_true, decide_eq_true_eq, List.all_eq_true] at h
    obtain ⟨⟨⟨⟨⟨⟨⟨⟨⟨⟨⟨⟨rfl, rfl⟩, h1⟩, h2⟩, h3⟩, h4⟩, h5⟩, h6⟩, h7⟩, h8⟩, h9⟩, h10⟩, h11⟩ := h
    split at h1
    · rename_i hs
      split at h7
      · rename_i hs2
        have p := peEl es O h1
        obtain ⟨pi, fs⟩ := pi_it O hs p
        have hN : X.N.Nodup := by rw [O.N]; exact O.nd
        have blk := blkOk_by h2
        rw [← O.N, ← O.sc] at blk
        have B := fun (s : Shared) (H : Hp) (C : Addr) (cl : List (Str × Addr)) (fp : List Addr) => blk_ok O (scope := ‹Scope›) (s := s) (H := H) (C := C) (cl := cl) (fp := fp)
        have pg := fun (s : Shared) (H : Hp) (C : Addr) (cl : List (Str × Addr)) (fp : List Addr) => pg_tg (B s H C cl fp) h4
        have pt := fun (s : Shared) (H : Hp) (C : Addr) (cl : List (Str × Addr)) (fp : List Addr) => ptC cs (B s H C cl fp) h5 h6
        have pe2 := fun (s : Shared) (H : Hp) (C : Addr) (cl : List (Str × Addr)) (fp : List Addr) => peEl es2 (B s H C cl fp) h7
        have pi2 := fun (s : Shared) (H : Hp) (C : Addr) (cl : List (Str × Addr)) (fp : List Addr) => (pi_it (B s H C cl fp) hs2 (pe2 s H C cl fp)).1
        have pg2 := fun (s : Shared) (H : Hp) (C : Addr) (cl : List (Str × Addr)) (fp : List Addr) => pg_tg (B s H C cl fp) h8
        have pt2 := fun (s : Shared) (H : Hp) (C : Addr) (cl : List (Str × Addr)) (fp : List Addr) => ptC cs2 (B s H C cl fp) h9 h10
        have pe := fun (s : Shared) (H : Hp) (C : Addr) (cl : List (Str × Addr)) (fp : List Addr) => (peE e (B s H C cl fp) h11).pe
        have own' : List.map ((fun p : Str × Nat => p.2) ∘ fun i => (X.N.getD i Str.empty, i)) own = own := by
          show List.map (fun i => i) own = own
          exact List.map_id' own
        rw [← O.sc] at hsw hf
        obtain ⟨w, hl⟩ := sw_name_t (l := sp.line) hf hsw
        unfold stB at hi
        rw [Bool.and_eq_true, decide_eq_true_eq, ← O.N] at hi
        have q := ps_setLc2 (vs1 := own2) (spos := sp) O.O.calm hN hi.1 hl w pi blk (fun i hi => by rw [List.map_map, own']; exact h3 i hi) pg pt pi2 pg2 pt2 pe (fs _) (itShape_set hs2)
        rw [List.map_map, own'] at q
        exact q
      · cases h7
    · cases h1
  · cases h
theorem comp_ps (O : XOk m c X) (hf : funB m.sc = true) {i : Nat} {y : Str} {p sp : Pos} {v : Expr} : ∀ (e : E), isCompE e = true → mtch m e v = true → stB m i y = true → swB m.sc v y p = true → PS X (.Assign [.Name y p] v sp) (tAsg (tE c e) (gName i)) := by
  intro e he h hi hsw
  cases e <;> simp only [isCompE, Bool.false_eq_true] at he
  case comp2 t own k es cs t2 own2 k2 es2 cs2 e =>
    exact comp2_ps O hf h hi hsw
  case compO t own j cs e =>
    simp only [mtch] at h
    split at h
    · simp only [Bool.and_eq_true, decide_eq_true_eq] at h
      obtain ⟨⟨⟨⟨⟨⟨rfl, h1⟩, h2⟩, h3⟩, h4⟩, h5⟩, h6⟩ := h
      split at h1
      · rename_i yy pp
        have pi : ∀ tg, PI X tg (.Name yy pp) (tIt c.K .list [tVar j]) := fun tg => by
          rw [← O.K]
          exact pi_list (pe_nm O h1)
        have hN : X.N.Nodup := by rw [O.N]; exact O.nd
        have blk := blkOk_by h2
        rw [← O.N, ← O.sc] at blk
        have pg := fun (s : Shared) (H : Hp) (C : Addr) (cl : List (Str × Addr)) (fp : List Addr) => pg_tg (blk_ok O (scope := ‹Scope›) (s := s) (H := H) (C := C) (cl := cl) (fp := fp)) h3
        have pt := fun (s : Shared) (H : Hp) (C : Addr) (cl : List (Str × Addr)) (fp : List Addr) => ptC cs (blk_ok O (scope := ‹Scope›) (s := s) (H := H) (C := C) (cl := cl) (fp := fp)) h4 h5
        have pe := fun (s : Shared) (H : Hp) (C : Addr) (cl : List (Str × Addr)) (fp : List Addr) => (peE e (blk_ok O (scope := ‹Scope›) (s := s) (H := H) (C := C) (cl := cl) (fp := fp)) h6).pe
        rw [← O.sc] at hsw hf
        obtain ⟨w, hl⟩ := sw_name_t (l := sp.line) hf hsw
        unfold stB at hi
        rw [Bool.and_eq_true, decide_eq_true_eq, ← O.N] at hi
        have q := ps_setLc (spos := sp) O.O.calm hN hi.1 hl w (pi _) blk pg pt pe (fun _ => rfl)
        rw [List.map_map] at q
        have own' : List.map ((fun p : Str × Nat => p.2) ∘ fun i => (X.N.getD i Str.empty, i)) own = own := by
          show List.map (fun i => i) own = own
          exact List.map_id' own
        rw [own'] at q
        exact q
      · cases h1
    · cases h
  rename_i t own k es cs e
  simp only [mtch] at h
  split at h
  · simp only [Bool.and_eq_true, decide_eq_true_eq] at h
    obtain ⟨⟨⟨⟨⟨⟨rfl, h1⟩, h2⟩, h3⟩, h4⟩, h5⟩, h6⟩ := h
    split at h1
    · rename_i hs
      have p := peEl es O h1
      obtain ⟨pi, fs⟩ := pi_it O hs p
      have hN : X.N.Nodup := by rw [O.N]; exact O.nd
      have blk := blkOk_by h2
      rw [← O.N, ← O.sc] at blk
      have pg := fun (s : Shared) (H : Hp) (C : Addr) (cl : List (Str × Addr)) (fp : List Addr) => pg_tg (blk_ok O (scope := ‹Scope›) (s := s) (H := H) (C := C) (cl := cl) (fp := fp)) h3
      have pt := fun (s : Shared) (H : Hp) (C : Addr) (cl : List (Str × Addr)) (fp : List Addr) => ptC cs (blk_ok O (scope := ‹Scope›) (s := s) (H := H) (C := C) (cl := cl) (fp := fp)) h4 h5
      have pe := fun (s : Shared) (H : Hp) (C : Addr) (cl : List (Str × Addr)) (fp : List Addr) => (peE e (blk_ok O (scope := ‹Scope›) (s := s) (H := H) (C := C) (cl := cl) (fp := fp)) h6).pe
      rw [← O.sc] at hsw hf
      obtain ⟨w, hl⟩ := sw_name_t (l := sp.line) hf hsw
      unfold stB at hi
      rw [Bool.and_eq_true, decide_eq_true_eq, ← O.N] at hi
      have q := ps_setLc (spos := sp) O.O.calm hN hi.1 hl w pi blk pg pt pe (fs _)
      rw [List.map_map] at q
      have own' : List.map ((fun p : Str × Nat => p.2) ∘ fun i => (X.N.getD i Str.empty, i)) own = own := by
        show List.map (fun i => i) own = own
        exact List.map_id' own
      rw [own'] at q
      exact q
    · cases h1
  · cases h
theorem loc1_of {i : Nat} {x : Str} (O : XOk m c X) (h : loc1 m i x = true) : X.N[i]? = some x ∧ X.env.scope.names.lookup x = some .local := by
  unfold loc1 at h
  rw [Bool.and_eq_true, decide_eq_true_eq, decide_eq_true_eq, ← O.N, ← O.sc] at h
  exact h
theorem pg_subM (O : XOk m c X) {i : Nat} {k : E} {y : Str} {z : Expr} {yp p : Pos} (h1 : nmB m i y = true) (h2 : mtch m k z = true) (h3 : isSliceE z = false) : PG X (.Subscript (.Name y yp) z p) (gSub (tVar i) (tE c k) rSetL) :=
  pg_sub (pe_nm O h1) (peE k O h2).pe set_list (by
    intro v
    cases z <;> first | rfl | (simp [isSliceE] at h3))
theorem par2_eq (i j : Nat) (ta : TA) : tPar i j ta = tParN [i, j] ta := by
  funext D σ H
  show ta σ H _ = ta σ H _
  congr 1
  funext vs H1
  apply propext
  constructor
  · rintro ⟨v, w, rfl, hn⟩
    exact ⟨rfl, hn⟩
  · rintro ⟨hl, hn⟩
    match vs, hl with
    | [v, w], _ => exact ⟨v, w, rfl, hn⟩
theorem par3_eq (i j l : Nat) (ta : TA) : tPar3 i j l ta = tParN [i, j, l] ta := by
  funext D σ H
  show ta σ H _ = ta σ H _
  congr 1
  funext vs H1
  apply propext
  constructor
  · rintro ⟨v, w, u, rfl, hn⟩
    exact ⟨rfl, hn⟩
  · rintro ⟨hl, hn⟩
    match vs, hl with
    | [v, w, u], _ => exact ⟨v, w, u, rfl, hn⟩
theorem swSole_tgt {v t : Expr} {l : Nat} {env : PySem.Env} (h : notName t = true) : swapsWithSole [t] v l env = pure false := by
  show swapsWith v (some t) l env = pure false
  exact sw_tgt h
theorem ps_asgN (O : XOk m c X) (hf : funB m.sc = true) {i : Nat} {e : E} {y : Str} {p sp : Pos} {v : Expr} (h1 : stB m i y = true) (h2 : mtch m e v = true) (h3 : swB m.sc v y p = false ∨ isCompE e = true) : PS X (.Assign [.Name y p] v sp) (tAsg (tE c e) (gName i)) := by
  by_cases hs : swB m.sc v y p = true
  · exact comp_ps O hf e (h3.resolve_left (by rw [hs]; simp)) h2 h1 hs
  · exact ps_asg (peE e O h2).pe (pg_nm O h1) (sw_name (l := sp.line) (by rw [O.sc]; exact hf) (by rw [O.sc]; simpa using hs)) (ss_name rfl rfl) rfl
theorem ps_asgT (O : XOk m c X) (hf : funB m.sc = true) {is : List Nat} {e : E} {ts : List Expr} {k : Nat} {p sp : Pos} {v : Expr} (h1 : mTg m (.tp is) (.Tuple ts k p) = true) (h2 : mtch m e v = true)
    (h3 : ssOk m.sc ts v = true) : PS X (.Assign [.Tuple ts k p] v sp) (tAsg (tE c e) (tTg c.K (.tp is))) := by
  refine ps_asg (peE e O h2).pe (pg_tg O h1) ?_ ?_ rfl
  · exact sw_tgt (t := .Tuple ts k p) (l := sp.line) (env := X.env) rfl
  · clear h2
    unfold ssOk at h3
    split at h3
    · exact ss_of (by rw [O.sc]; exact hf) (by rw [O.sc]; simpa using h3)
    · rename_i hn
      refine ss_plain ?_
      cases v <;> first | rfl | exact absurd rfl (fun z => hn _ _ _ z)
theorem ps_parN2 (O : XOk m c X) (hf : funB m.sc = true) {i j : Nat} {es : List E} {x1 x2 : Str} {p1 p2 q q2 sp : Pos} {k k2 : Nat} {v1 v2 : Expr} (h1 : loc1 m i x1 = true) (h2 : loc1 m j x2 = true) (h3 : i ≠ j) (h4 : mtchs m es [v1, v2] = true)
    (h5 : ssB m.sc [.Name x1 p1, .Name x2 p2] [v1, v2] = some (some [x1, x2])) : PS X (.Assign [.Tuple [.Name x1 p1, .Name x2 p2] k q] (.Tuple [v1, v2] k2 q2) sp) (tParN [i, j] (seqT (tEl c es))) := by
  obtain ⟨n1, l1⟩ := loc1_of O h1
  obtain ⟨n2, l2⟩ := loc1_of O h2
  have hN : X.N.Nodup := by rw [O.N]; exact O.nd
  rw [← O.sc] at h5 hf
  have r := ps_par (pos := sp) (kt := k) (pt := q) (k2 := k2) (pt2 := q2) O.O.calm hN n1 n2 h3 l1 l2 (peEl es O h4).pa (ss_of hf h5) rfl
  rw [← par2_eq]
  exact r
theorem ps_parN3 (O : XOk m c X) (hf : funB m.sc = true) {i j l : Nat} {es : List E} {x1 x2 x3 : Str} {p1 p2 p3 q q2 sp : Pos} {k k2 : Nat} {v1 v2 v3 : Expr} (h1 : loc1 m i x1 = true) (h2 : loc1 m j x2 = true) (h2' : loc1 m l x3 = true) (h3 : i ≠ j) (h3' : i ≠ l) (h3'' : j ≠ l) (h4 : mtchs m es [v1, v2, v3] = true)
    (h5 : ssB m.sc [.Name x1 p1, .Name x2 p2, .Name x3 p3] [v1, v2, v3] = some (some [x1, x2, x3])) : PS X (.Assign [.Tuple [.Name x1 p1, .Name x2 p2, .Name x3 p3] k q] (.Tuple [v1, v2, v3] k2 q2) sp) (tParN [i, j, l] (seqT (tEl c es))) := by
  obtain ⟨n1, l1⟩ := loc1_of O h1
  obtain ⟨n2, l2⟩ := loc1_of O h2
  obtain ⟨n3, l3⟩ := loc1_of O h2'
  have hN : X.N.Nodup := by rw [O.N]; exact O.nd
  rw [← O.sc] at h5 hf
  have r := ps_par3 (pos := sp) (kt := k) (pt := q) (k2 := k2) (pt2 := q2) O.O.calm hN n1 n2 n3 h3 h3' h3'' l1 l2 l3 (peEl es O h4).pa (ss_of hf h5) rfl
  rw [← par3_eq]
  exact r
theorem ps_sub2M (O : XOk m c X) (hf : funB m.sc = true) {i i2 : Nat} {k k2 e e2 : E} {y y2 : Str} {z z2 v v2 : Expr} {q1 q2 r1 r2 p p2 sp : Pos} {n n2 : Nat} (h1 : nmB m i y = true) (h2 : mtch m k z = true) (h3 : isSliceE z = false) (h4 : nmB m i2 y2 = true) (h5 : mtch m k2 z2 = true) (h6 : isSliceE z2 = false) (h7 : mtch m e v = true) (h8 : mtch m e2 v2 = true)
    (h9 : ssB m.sc [.Subscript (.Name y q1) z r1, .Subscript (.Name y2 q2) z2 r2] [v, v2] = some none) : PS X (.Assign [.Tuple [.Subscript (.Name y q1) z r1, .Subscript (.Name y2 q2) z2 r2] n p] (.Tuple [v, v2] n2 p2) sp) (tS c (.sub2 i k i2 k2 e e2)) := by
  rw [← O.sc] at h9 hf
  have hE := peE e O h7
  have hE2 := peE e2 O h8
  have pp := PEs.cons hE.pe hE.ns (PEs.cons hE2.pe hE2.ns PEs.nil)
  have g := pgs_cons (pg_subM (p := r1) (yp := q1) O h1 h2 h3) (pgs_cons (pg_subM (p := r2) (yp := q2) O h4 h5 h6) pgs_nil rfl) rfl
  unfold tS
  rw [← O.K]
  exact ps_asg (pe_tup pp.pa) (pg_tup O.O.calm g rfl rfl) rfl (ss_of hf h9) rfl
theorem ps_augM (O : XOk m c X) {i : Nat} {k e : E} {o : Op} {op : Operator} {y : Str} {z v : Expr} {q r sp : Pos} (h1 : nmB m i y = true) (h2 : mtch m k z = true) (h3 : isSliceE z = false) (h4 : (match o with | .add => decide (op = .Add) | .sub => decide (op = .Sub) | _ => false) = true) (h5 : mtch m e v = true) :
    PS X (.AugAssign (.Subscript (.Name y q) z r) op v sp) (tS c (.augs i k o e)) := by
  unfold tS
  rw [← O.K]
  refine ps_augS (pe_nm O h1) (peE k O h2).pe get_list (peE e O h5).pe (ip_O h4) set_list ?_
  intro ov iv new
  cases z <;> first | rfl | (simp [isSliceE] at h3)
mutual
theorem peS (hp : PassesOwn (model X.prog X.w) X.A X.env X.xe) (O : XOk m c X) (hf : funB m.sc = true) : ∀ (s : S) {x : Stmt}, mS m s x = true → PS X x (tS c s)
  | .asg (.nm i) e, x, h => by
    simp only [mS] at h
    split at h
    · simp only [Bool.and_eq_true, Bool.or_eq_true, Bool.not_eq_true'] at h
      exact ps_asgN O hf h.1.1 h.1.2 h.2
    · cases h
  | .asg (.tp is) e, x, h => by
    simp only [mS] at h
    split at h
    · simp only [Bool.and_eq_true] at h
      exact ps_asgT O hf h.1.1 h.1.2 h.2
    · cases h
  | .par is es, x, h => by
    simp only [mS] at h
    split at h
    · simp only [Bool.and_eq_true, decide_eq_true_eq, beq_iff_eq] at h
      obtain ⟨⟨⟨⟨h1, h2⟩, h3⟩, h4⟩, h5⟩ := h
      exact ps_parN2 O hf h1 h2 h3 h4 h5
    · simp only [Bool.and_eq_true, decide_eq_true_eq, beq_iff_eq] at h
      obtain ⟨⟨⟨⟨⟨⟨⟨h1, h2⟩, h3⟩, h4⟩, h5⟩, h6⟩, h7⟩, h8⟩ := h
      exact ps_parN3 O hf h1 h2 h3 h4 h5 h6 h7 h8
    · cases h
  | .sub i k e, x, h => by
    simp only [mS] at h
    split at h
    · simp only [Bool.and_eq_true, Bool.not_eq_true'] at h
      obtain ⟨⟨⟨h1, h2⟩, h3⟩, h4⟩ := h
      refine ps_asg (peE e O h4).pe (pg_subM O h1 h2 h3) ?_ (ss_name rfl rfl) rfl
      exact swSole_tgt rfl
    · cases h
  | .sub2 i k i2 k2 e e2, x, h => by
    simp only [mS] at h
    split at h
    · simp only [Bool.and_eq_true, Bool.not_eq_true', beq_iff_eq] at h
      obtain ⟨⟨⟨⟨⟨⟨⟨⟨h1, h2⟩, h3⟩, h4⟩, h5⟩, h6⟩, h7⟩, h8⟩, h9⟩ := h
      exact ps_sub2M O hf h1 h2 h3 h4 h5 h6 h7 h8 h9
    · cases h
  | .aug _ _ _, x, h => by simp [mS] at h
  | .augs i k o e, x, h => by
    simp only [mS] at h
    split at h
    · simp only [Bool.and_eq_true, Bool.not_eq_true'] at h
      obtain ⟨⟨⟨⟨h1, h2⟩, h3⟩, h4⟩, h5⟩ := h
      exact ps_augM O h1 h2 h3 h4 h5
    · cases h
  | .ex e, x, h => by
    simp only [mS] at h
    split at h
    · simp only [Bool.and_eq_true, Bool.not_eq_true'] at h
      exact ps_expr (peE e O h.2).pe (sw_plain h.1)
    · cases h
  | .ret e, x, h => by
    simp only [mS] at h
    split at h
    · exact ps_ret (peE e O h).pe
    · cases h
  | .retN, x, h => by
    simp only [mS] at h
    split at h
    · exact ps_retN
    · cases h
  | .iff d a b, x, h => by
    simp only [mS] at h
    split at h
    · simp only [Bool.and_eq_true] at h
      exact ps_if ((peE d O h.1.1.2).pt h.1.1.1) (peSs hp O hf a h.1.2) (peSs hp O hf b h.2)
    · cases h
  | .whl d b kill, x, h => by
    simp only [mS] at h
    split at h
    · simp only [Bool.and_eq_true] at h
      exact ps_while hp ((peE d O h.1.2).pt h.1.1) (peSs hp O hf b h.2)
    · cases h
  | .forr t k es b kill, x, h => by
    simp only [mS] at h
    split at h
    · simp only [Bool.and_eq_true] at h
      obtain ⟨⟨h1, h2⟩, h3⟩ := h
      split at h1
      · rename_i hs
        obtain ⟨pi, fs⟩ := pi_it O hs (peEl es O h1)
        exact ps_for hp O.O.calm pi (pg_tg O h2) (peSs hp O hf b h3) (fs _)
      · cases h1
    · cases h
  | .raise, x, h => ps_never
  | .pass, x, h => by
    simp only [mS] at h
    split at h
    · exact ps_pass
    · exact ps_doc
    · cases h
  | .frm s, x, h => by
    simp only [mS] at h
    exact peS hp O hf s h
theorem peSs (hp : PassesOwn (model X.prog X.w) X.A X.env X.xe) (O : XOk m c X) (hf : funB m.sc = true) : ∀ (ss : List S) {xs : List Stmt}, mSs m ss xs = true → PSs X xs (tSs c ss)
  | [], xs, h => by
    cases xs with
    | nil => exact pss_nil
    | cons x xs => simp [mSs] at h
  | s :: ss, xs, h => by
    cases xs with
    | nil => simp [mSs] at h
    | cons x xs =>
      simp only [mSs, Bool.and_eq_true] at h
      exact pss_cons (peS hp O hf s h.1) (peSs hp O hf ss h.2)
end
end
end OH

namespace OH
open PySem PySem.Spec PyProof.Rows L2
section
variable {α : Type}
theorem oD_set_ne {l : List (Option α)} {i j : Nat} {x : Option α} (h : i ≠ j) : oD (l.set i x) j = oD l j := by
  unfold oD; rw [List.getElem?_set_ne h]
theorem oD_set_eq {l : List (Option α)} {i : Nat} {x : Option α} (h : i < l.length) : oD (l.set i x) i = x := by
  unfold oD; rw [List.getElem?_set_self h]; rfl
theorem oD_out {l : List (Option α)} {i : Nat} (h : l.length ≤ i) : oD l i = none := by
  unfold oD; rw [List.getElem?_eq_none h]; rfl
theorem oD_lt {l : List (Option α)} {i : Nat} {x : α} (h : oD l i = some x) : i < l.length := by
  by_cases c : i < l.length
  · exact c
  · rw [oD_out (by omega)] at h; cases h
theorem oD_get {l : List (Option α)} {i : Nat} {x : α} (h : oD l i = some x) : l[i]? = some (some x) := by
  unfold oD at h
  cases e : l[i]? with
  | none => rw [e] at h; cases h
  | some y => rw [e] at h; rw [show y = some x from h]
theorem oD_of {l : List (Option α)} {i : Nat} {x : Option α} (h : l[i]? = some x) : oD l i = x := by unfold oD; rw [h]; rfl
theorem oD_set {l : List (Option α)} {i j : Nat} {x : Option α} : oD (l.set i x) j = if i = j ∧ i < l.length then x else oD l j := by
  by_cases h : i = j
  · subst h
    by_cases c : i < l.length
    · rw [if_pos ⟨rfl, c⟩, oD_set_eq c]
    · rw [if_neg (fun z => c z.2), oD_out (by rw [List.length_set]; omega), oD_out (by omega)]
  · rw [if_neg (fun z => h z.1), oD_set_ne h]
theorem oD_set_none {l : List (Option α)} {i : Nat} : oD (l.set i none) i = none := by
  rw [oD_set]
  split
  · rfl
  · rename_i c
    exact oD_out (by omega)
theorem oD_fold {l : List (Option α)} {j : Nat} : ∀ {is : List Nat} {l : List (Option α)}, oD (is.foldl (fun r i => r.set i none) l) j = if j ∈ is then none else oD l j
  | [], l => by simp
  | i :: is, l => by
    rw [List.foldl_cons, oD_fold (l := l)]
    by_cases h : j ∈ is
    · rw [if_pos h, if_pos (List.mem_cons_of_mem _ h)]
    · rw [if_neg h]
      by_cases e : i = j
      · subst e
        rw [oD_set_none, if_pos List.mem_cons_self]
      · rw [oD_set_ne e, if_neg]
        intro z
        rcases List.mem_cons.mp z with z | z
        · exact e z.symm
        · exact h z
theorem fold_len : ∀ {is : List Nat} {l : List (Option α)}, (is.foldl (fun r i => r.set i none) l).length = l.length
  | [], _ => rfl
  | i :: is, l => by rw [List.foldl_cons, fold_len, List.length_set]
end
theorem gD_kill {g : Gam} {is : List Nat} {j : Nat} : gD (killG g is) j = if j ∈ is then none else gD g j := oD_fold (l := g)
theorem getD_wipe {ρ : REnv} {is : List Nat} {j : Nat} : getD (wipeD ρ is) j = if j ∈ is then none else getD ρ j := oD_fold (l := ρ)
theorem wipeD_len {ρ : REnv} {is : List Nat} : (wipeD ρ is).length = ρ.length := fold_len
theorem gD_meet {g h : Gam} {i : Nat} : gD (meet g h) i = meetO (gD g i) (gD h i) := by
  unfold meet gD oD
  rw [List.getElem?_zipWith]
  cases g[i]? with
  | none => cases h[i]? with
    | none => rfl
    | some y => rfl
  | some x => cases h[i]? with
    | none => cases x <;> rfl
    | some y => rfl
theorem gD_back {g h : Gam} {i : Nat} : gD (back g h) i = match gD h i with | none => none | some _ => gD g i := by
  unfold back gD oD
  rw [List.getElem?_zipWith]
  cases g[i]? with
  | none => cases h[i]? with
    | none => rfl
    | some y => cases y <;> rfl
  | some x => cases h[i]? with
    | none => rfl
    | some y => cases y <;> rfl
theorem gD_frame {g g1 : Gam} {ch : List Nat} {i : Nat} : gD (frame g g1 ch) i = match gD g1 i with
    | none => none
    | some k => if i ∈ ch then (match k with | .om => some .om | _ => none) else gD g i := by
  by_cases h : i < g1.length
  · unfold frame
    show oD _ i = _
    unfold oD
    rw [List.getElem?_map, List.getElem?_range h]
    rfl
  · rw [show gD g1 i = none from oD_out (by omega)]
    show oD _ i = none
    exact oD_out (by unfold frame; rw [List.length_map, List.length_range]; omega)
/-- the less known -/
def GLe (g h : Gam) : Prop := ∀ i, leO (gD g i) (gD h i) = true
theorem leO_refl (x : Option Dp) : leO x x = true := by cases x <;> simp [leO, Dp.le_refl]
theorem GLe.refl (g : Gam) : GLe g g := fun i => leO_refl _
theorem leO_trans {x y z : Option Dp} (h : leO x y = true) (h2 : leO y z = true) : leO x z = true := by
  cases x <;> cases y <;> cases z <;> simp_all [leO]
  exact Dp.le_trans h h2
theorem GLe.trans {a b c : Gam} (h : GLe a b) (h2 : GLe b c) : GLe a c := fun i => leO_trans (h i) (h2 i)
theorem leG_ok {g h : Gam} (e : leG g h = true) : GLe g h := fun i => by
  by_cases c : i < g.length
  · exact List.all_eq_true.mp e i (List.mem_range.mpr c)
  · rw [show gD g i = none from oD_out (by omega)]; rfl
theorem meet_l (g h : Gam) : GLe (meet g h) g := fun i => by
  rw [gD_meet]
  cases gD g i <;> cases gD h i <;> simp [meetO, leO, Dp.mn_le_l]
theorem meet_r (g h : Gam) : GLe (meet g h) h := fun i => by
  rw [gD_meet]
  cases gD g i <;> cases gD h i <;> simp [meetO, leO, Dp.mn_le_r]
theorem kill_le (g : Gam) (is : List Nat) : GLe (killG g is) g := fun i => by
  rw [gD_kill]
  split
  · rfl
  · exact leO_refl _
theorem GLe.some {g h : Gam} (l : GLe g h) {i : Nat} {k : Dp} (e : gD g i = some k) : ∃ k', gD h i = some k' ∧ k.le k' = true := by
  have := l i
  rw [e] at this
  cases c : gD h i with
  | none => rw [c] at this; cases this
  | some k' => rw [c] at this; exact ⟨k', rfl, this⟩

/-! ### slots -/
abbrev Tau := List (Option T)
def ent (g : Gam) (τ : Tau) (i : Nat) : Hold := match gD g i, oD τ i with
  | some k, some t => [(t, k)]
  | _, _ => []
def slotsOn (is : List Nat) (g : Gam) (τ : Tau) : Hold := is.flatMap (ent g τ)
def slots (g : Gam) (τ : Tau) : Hold := slotsOn (List.range τ.length) g τ
theorem ent_some {g : Gam} {τ : Tau} {i : Nat} {k : Dp} {t : T} (h : gD g i = some k) (h2 : oD τ i = some t) : ent g τ i = [(t, k)] := by unfold ent; rw [h, h2]
theorem ent_none {g : Gam} {τ : Tau} {i : Nat} (h : gD g i = none) : ent g τ i = [] := by unfold ent; rw [h]
theorem slotsOn_congr {g g' : Gam} {τ τ' : Tau} : ∀ {is : List Nat}, (∀ i ∈ is, ent g τ i = ent g' τ' i) → slotsOn is g τ = slotsOn is g' τ'
  | [], _ => rfl
  | i :: is, h => by
    unfold slotsOn
    rw [List.flatMap_cons, List.flatMap_cons, h i List.mem_cons_self]
    congr 1
    exact slotsOn_congr (is := is) fun j m => h j (List.mem_cons_of_mem _ m)
theorem nodup_range' (n : Nat) : (List.range n).Nodup := List.nodup_range
theorem slots_out {g : Gam} {τ : Tau} {i : Nat} (h : i < τ.length) : (slots g τ).Perm (ent g τ i ++ slotsOn ((List.range τ.length).erase i) g τ) := by
  have p : (List.range τ.length).Perm (i :: (List.range τ.length).erase i) := List.perm_cons_erase (List.mem_range.mpr h)
  exact p.flatMap_right _
theorem erase_ne {n i j : Nat} (h : j ∈ (List.range n).erase i) : j ≠ i := by
  intro e
  subst e
  exact (List.Nodup.not_mem_erase (nodup_range' n)) h
theorem mem_ent {g : Gam} {τ : Tau} {i : Nat} {p : T × Dp} (h : p ∈ ent g τ i) : gD g i = some p.2 ∧ oD τ i = some p.1 := by
  unfold ent at h
  split at h
  · rename_i h1 h2
    rw [List.mem_singleton.mp h]
    exact ⟨h1, h2⟩
  · cases h
theorem mem_slots {g : Gam} {τ : Tau} {p : T × Dp} : p ∈ slots g τ ↔ ∃ i, i < τ.length ∧ gD g i = some p.2 ∧ oD τ i = some p.1 := by
  unfold slots slotsOn
  rw [List.mem_flatMap]
  constructor
  · rintro ⟨i, hi, h⟩
    exact ⟨i, List.mem_range.mp hi, mem_ent h⟩
  · rintro ⟨i, hi, h1, h2⟩
    exact ⟨i, List.mem_range.mpr hi, by rw [ent_some h1 h2]; exact List.mem_singleton.mpr rfl⟩
section
variable {K : PySem.W.Frag} {H0 H H' : Hp} {IO SR : List Addr} {R : Hold} {g g1 g2 : Gam} {τ τ' : Tau} {t : T} {k : Dp}
/-- out of its slot -/
theorem Good.take {i : Nat} (G : Good K H0 IO SR H (slots g τ ++ R)) (h : gD g i = some k) (h2 : oD τ i = some t) : Good K H0 IO SR H ((t, k) :: (slots (g.set i none) τ ++ R)) := by
  have hi := oD_lt h2
  have p1 := slots_out (g := g) hi
  have p2 := slots_out (g := g.set i none) hi
  rw [ent_some h h2] at p1
  rw [ent_none oD_set_none, List.nil_append] at p2
  have e : slotsOn ((List.range τ.length).erase i) g τ = slotsOn ((List.range τ.length).erase i) (g.set i none) τ := slotsOn_congr fun j m => by
    unfold ent
    rw [show gD (g.set i none) j = gD g j from oD_set_ne (erase_ne m).symm]
  rw [e] at p1
  exact G.perm ((p1.trans (List.Perm.append_left [(t, k)] p2.symm)).append_right R)
/-- into a slot, what was there is dropped -/
theorem Good.put {i : Nat} (G : Good K H0 IO SR H ((t, k) :: (slots g τ ++ R))) : Good K H0 IO SR H (slots (g.set i (some k)) (τ.set i (some t)) ++ R) := by
  by_cases hi : i < τ.length
  · have p1 := slots_out (g := g) hi
    have p2 := slots_out (g := g.set i (some k)) (τ := τ.set i (some t)) (i := i) (by rw [List.length_set]; exact hi)
    rw [List.length_set] at p2
    have e : slotsOn ((List.range τ.length).erase i) (g.set i (some k)) (τ.set i (some t)) = slotsOn ((List.range τ.length).erase i) g τ := slotsOn_congr fun j m => by
      unfold ent
      rw [show gD (g.set i (some k)) j = gD g j from oD_set_ne (erase_ne m).symm, oD_set_ne (erase_ne m).symm]
    rw [e] at p2
    have G1 : Good K H0 IO SR H ((t, k) :: (slotsOn ((List.range τ.length).erase i) g τ ++ R)) := by
      have q : ((t, k) :: (slots g τ ++ R)).Perm (ent g τ i ++ ((t, k) :: (slotsOn ((List.range τ.length).erase i) g τ ++ R))) := by
        refine ((p1.append_right R).cons (t, k)).trans ?_
        rw [List.append_assoc]
        exact List.perm_middle.symm
      exact (G.perm q).dropL
    by_cases hg : i < g.length
    · rw [ent_some (show gD (g.set i (some k)) i = some k from oD_set_eq hg) (oD_set_eq hi)] at p2
      exact G1.perm (p2.symm.append_right R)
    · rw [ent_none (show gD (g.set i (some k)) i = none from oD_out (by rw [List.length_set]; omega)), List.nil_append] at p2
      exact G1.drop.perm (p2.symm.append_right R)
  · have e : slots (g.set i (some k)) (τ.set i (some t)) = slots g τ := by
      unfold slots
      rw [List.length_set]
      refine slotsOn_congr fun j m => ?_
      have hj := List.mem_range.mp m
      unfold ent
      rw [show gD (g.set i (some k)) j = gD g j from oD_set_ne (by omega), oD_set_ne (by omega)]
    rw [e]
    exact G.drop
theorem sum_le {f h : Nat → Nat} : ∀ {is : List Nat}, (∀ i ∈ is, f i ≤ h i) → (is.map f).sum ≤ (is.map h).sum
  | [], _ => Nat.le_refl _
  | i :: is, q => by
    simp only [List.map_cons, List.sum_cons]
    exact Nat.add_le_add (q i List.mem_cons_self) (sum_le fun j m => q j (List.mem_cons_of_mem _ m))
theorem cnt_slots (is : List Nat) (g : Gam) (τ : Tau) (a : Addr) : (hLa (slotsOn is g τ)).count a = (is.map fun i => (hLa (ent g τ i)).count a).sum := by
  induction is with
  | nil => rfl
  | cons i is ih =>
    unfold slotsOn at ih ⊢
    rw [List.flatMap_cons, hLa_app, List.count_append, ih, List.map_cons, List.sum_cons]
theorem own_om : ∀ (t : T) (a : Addr), a ∈ T.la t → a ∈ T.own t .om := by
  intro t
  exact T.rec (motive_1 := fun t => ∀ a, a ∈ T.la t → a ∈ T.own t .om) (motive_2 := fun ts => ∀ a, a ∈ T.las ts → a ∈ T.owns ts .om)
    (fun a m => by simp [T.la] at m) (fun b a m => by simp [T.la] at m) (fun b a m => by simp [T.la] at m) (fun b a m => by simp [T.la] at m)
    (fun b ts ih a m => by
      unfold T.la at m; unfold T.own
      rw [if_pos (show Dp.om.pos = true from rfl)]
      rcases List.mem_cons.mp m with e | m
      · exact List.mem_cons.mpr (.inl e)
      · exact List.mem_cons_of_mem _ (ih a m))
    (fun b ts ih a m => by
      unfold T.la at m; unfold T.own
      rw [if_pos (show Dp.om.pos = true from rfl)]
      exact ih a m)
    (fun b a m => by simp [T.la] at m)
    (fun b ts ih a m => by
      unfold T.la at m; unfold T.own
      rw [if_pos (show Dp.om.pos = true from rfl)]
      exact ih a m)
    (fun b vs a m => by
      unfold T.la at m; unfold T.own
      rw [if_pos (show Dp.om.pos = true from rfl)]; exact m)
    (fun b tp vs a m => by simp [T.la] at m)
    (fun a m => by simp [T.las] at m)
    (fun t ts h1 h2 a m => by
      unfold T.las at m; unfold T.owns
      rcases List.mem_append.mp m with m | m
      · exact List.mem_append_left _ (h1 a m)
      · exact List.mem_append_right _ (h2 a m)) t
theorem sum_mem {f : Nat → Nat} {i : Nat} : ∀ {is : List Nat}, i ∈ is → f i ≤ (is.map f).sum
  | j :: is, h => by
    simp only [List.map_cons, List.sum_cons]
    rcases List.mem_cons.mp h with e | h
    · subst e; omega
    · have := sum_mem (f := f) h; omega
theorem sum_two {f : Nat → Nat} {i j : Nat} (hij : i ≠ j) : ∀ {is : List Nat}, i ∈ is → j ∈ is → f i + f j ≤ (is.map f).sum
  | l :: is, hi, hj => by
    simp only [List.map_cons, List.sum_cons]
    by_cases e : i = l
    · have hj' : j ∈ is := (List.mem_cons.mp hj).resolve_left (fun z => hij (e.trans z.symm))
      have := sum_mem (f := f) hj'
      rw [e]; omega
    · have hi' : i ∈ is := (List.mem_cons.mp hi).resolve_left e
      by_cases e2 : j = l
      · have := sum_mem (f := f) hi'
        rw [e2]; omega
      · have := sum_two (f := f) hij hi' ((List.mem_cons.mp hj).resolve_left e2)
        omega
theorem hLa_mem {hs : Hold} {a : Addr} : a ∈ hLa hs ↔ ∃ p ∈ hs, a ∈ T.la p.1 := List.mem_flatMap
theorem hOwn_mem {hs : Hold} {a : Addr} : a ∈ hOwn hs ↔ ∃ p ∈ hs, a ∈ T.own p.1 p.2 := List.mem_flatMap
/-- what was one's own before is again, where the step has kept it -/
theorem Good.restore {N : Hold} (G0 : Good K H0 IO SR H (slots g τ ++ R)) (G1 : Good K H0 IO SR H' (N ++ (slots g1 τ' ++ R))) (hN : ∀ p ∈ N, p.2 = .om) (len : τ'.length = τ.length)
    (h : ∀ i k, i < τ.length → gD g2 i = some k → ∃ k1, gD g1 i = some k1 ∧ ((k = .om ∧ k1 = .om) ∨ (gD g i = some k ∧ oD τ' i = oD τ i))) : Good K H0 IO SR H' (N ++ (slots g2 τ' ++ R)) := by
  have sub : ∀ p ∈ slots g2 τ', ∃ k1, (p.1, k1) ∈ slots g1 τ' := fun p hp => by
    obtain ⟨i, hi, h1, h2⟩ := mem_slots.mp hp
    obtain ⟨k1, e, _⟩ := h i p.2 (by omega) h1
    exact ⟨k1, mem_slots.mpr ⟨i, hi, e, h2⟩⟩
  have pt : ∀ a i, i < τ'.length → (hLa (ent g2 τ' i)).count a ≤ (hLa (ent g1 τ' i)).count a := fun a i hi => by
    cases e2 : gD g2 i with
    | none => rw [ent_none e2]; exact Nat.zero_le _
    | some k =>
      obtain ⟨k1, e1, _⟩ := h i k (by omega) e2
      cases et : oD τ' i with
      | none => unfold ent; rw [et, e2]; exact Nat.zero_le _
      | some t => rw [ent_some e2 et, ent_some e1 et]; exact Nat.le_refl _
  have cle : ∀ a, (hLa (N ++ (slots g2 τ' ++ R))).count a ≤ (hLa (N ++ (slots g1 τ' ++ R))).count a := fun a => by
    rw [hLa_app, hLa_app, hLa_app, hLa_app, List.count_append, List.count_append, List.count_append, List.count_append]
    have := sum_le (f := fun i => (hLa (ent g2 τ' i)).count a) (h := fun i => (hLa (ent g1 τ' i)).count a) (is := List.range τ'.length) (fun i hi => pt a i (List.mem_range.mp hi))
    rw [← cnt_slots, ← cnt_slots] at this
    have t : (hLa (slots g2 τ')).count a ≤ (hLa (slots g1 τ')).count a := this
    omega
  have pos : ∀ a, a ∈ hOwn (N ++ (slots g2 τ' ++ R)) → 1 ≤ (hLa (N ++ (slots g2 τ' ++ R))).count a := fun a m => List.count_pos_iff.mpr (hOwn_la m)
  have key : ∀ a ∈ hOwn (N ++ (slots g2 τ' ++ R)), a ∈ hOwn (N ++ (slots g1 τ' ++ R)) ∨ (a ∈ hOwn (slots g τ ++ R) ∧ (hLa (N ++ (slots g2 τ' ++ R))).count a ≤ 1) := by
    intro a m
    rw [hOwn_app, hOwn_app] at m
    rcases List.mem_append.mp m with m | m
    · exact .inl (by rw [hOwn_app]; exact List.mem_append_left _ m)
    rcases List.mem_append.mp m with m | m
    · obtain ⟨p, hp, ma⟩ := hOwn_mem.mp m
      obtain ⟨i, hi, h1, h2⟩ := mem_slots.mp hp
      obtain ⟨k1, e1, hk⟩ := h i p.2 (by omega) h1
      have inAfter : ∀ {j : Nat} {t : T} {kk : Dp}, j < τ'.length → gD g1 j = some kk → oD τ' j = some t → a ∈ T.own t kk → a ∈ hOwn (N ++ (slots g1 τ' ++ R)) := fun {j t kk} hj e et mo => by
        rw [hOwn_app, hOwn_app]
        exact List.mem_append_right _ (List.mem_append_left _ (hOwn_mem.mpr ⟨(t, kk), mem_slots.mpr ⟨j, hj, e, et⟩, mo⟩))
      rcases hk with ⟨ko, k1o⟩ | ⟨hb, ht⟩
      · exact .inl (inAfter hi e1 h2 (by rw [k1o]; rw [ko] at ma; exact ma))
      · right
        have mb : a ∈ hOwn (slots g τ ++ R) := by
          rw [hOwn_app]
          exact List.mem_append_left _ (hOwn_mem.mpr ⟨p, mem_slots.mpr ⟨i, by omega, hb, by rw [← ht]; exact h2⟩, ma⟩)
        refine ⟨mb, ?_⟩
        have cb := G0.sep a mb
        rw [hLa_app, List.count_append] at cb
        have sAfter : ∀ i, i < τ'.length → (hLa (ent g1 τ' i)).count a ≤ (hLa (slots g1 τ')).count a := fun i hi => by
          unfold slots
          rw [cnt_slots]
          exact sum_mem (f := fun i => (hLa (ent g1 τ' i)).count a) (List.mem_range.mpr hi)
        have ci : 1 ≤ (hLa (ent g1 τ' i)).count a := by
          rw [ent_some e1 h2]
          exact List.count_pos_iff.mpr (hLa_mem.mpr ⟨(p.1, k1), List.mem_singleton.mpr rfl, own_la _ _ _ ma⟩)
        have cN : (hLa N).count a = 0 := by
          refine List.count_eq_zero_of_not_mem fun mn => ?_
          obtain ⟨q, hq, mq⟩ := hLa_mem.mp mn
          have mo : a ∈ T.own q.1 q.2 := by rw [hN q hq]; exact own_om _ _ mq
          have c := G1.sep a (by rw [hOwn_app]; exact List.mem_append_left _ (hOwn_mem.mpr ⟨q, hq, mo⟩))
          rw [hLa_app, hLa_app, List.count_append, List.count_append] at c
          have c1 := List.count_pos_iff.mpr mn
          have c2 := sAfter i hi
          omega
        have cj : ∀ j, j < τ'.length → (hLa (ent g2 τ' j)).count a ≤ (hLa (ent g τ j)).count a := fun j hj => by
          cases e2 : gD g2 j with
          | none => rw [ent_none e2]; exact Nat.zero_le _
          | some kj =>
            obtain ⟨k1j, e1j, hkj⟩ := h j kj (by omega) e2
            cases et : oD τ' j with
            | none => unfold ent; rw [et, e2]; exact Nat.zero_le _
            | some tj =>
              by_cases mj : a ∈ T.la tj
              · by_cases hji : j = i
                · subst hji
                  rw [ent_some e2 et, ent_some hb (by rw [← ht]; exact et)]
                  exact Nat.le_refl _
                · rcases hkj with ⟨kjo, k1jo⟩ | before
                  · exfalso
                    have c := G1.sep a (inAfter hj e1j et (by rw [k1jo]; exact own_om _ _ mj))
                    rw [hLa_app, hLa_app, List.count_append, List.count_append] at c
                    have c2 := sum_two (f := fun i => (hLa (ent g1 τ' i)).count a) (fun z => hji z.symm) (List.mem_range.mpr hi) (List.mem_range.mpr hj)
                    rw [← cnt_slots] at c2
                    have c3 : 1 ≤ (hLa (ent g1 τ' j)).count a := by
                      rw [ent_some e1j et]
                      exact List.count_pos_iff.mpr (hLa_mem.mpr ⟨(tj, k1j), List.mem_singleton.mpr rfl, mj⟩)
                    have c4 : (hLa (slots g1 τ')).count a = (hLa (slotsOn (List.range τ'.length) g1 τ')).count a := rfl
                    omega
                  · rw [ent_some e2 et, ent_some before.1 (by rw [← before.2]; exact et)]
                    exact Nat.le_refl _
              · rw [ent_some e2 et]
                have : (hLa [(tj, kj)]).count a = 0 := List.count_eq_zero_of_not_mem fun z => by
                  obtain ⟨q, hq, mq⟩ := hLa_mem.mp z
                  rw [List.mem_singleton.mp hq] at mq
                  exact mj mq
                omega
        rw [hLa_app, hLa_app, List.count_append, List.count_append, cN]
        have s2 : (hLa (slots g2 τ')).count a ≤ (hLa (slots g τ)).count a := by
          unfold slots
          rw [cnt_slots, cnt_slots, len]
          exact sum_le fun i hi => cj i (by have := List.mem_range.mp hi; omega)
        omega
    · exact .inl (by rw [hOwn_app, hOwn_app]; exact List.mem_append_right _ (List.mem_append_right _ m))
  refine ⟨fun p hp => ?_, fun a m => ?_, fun a m => ?_, G1.io, G1.fr, fun a m => ?_⟩
  · rcases List.mem_append.mp hp with hp | hp
    · exact G1.ok p (List.mem_append_left _ hp)
    rcases List.mem_append.mp hp with hp | hp
    · obtain ⟨k1, hq⟩ := sub p hp
      exact G1.ok (p.1, k1) (List.mem_append_right _ (List.mem_append_left _ hq))
    · exact G1.ok p (List.mem_append_right _ (List.mem_append_right _ hp))
  · have p1 := pos a m
    rcases key a m with q | ⟨_, q⟩
    · have := G1.sep a q
      have := cle a
      omega
    · omega
  · rcases key a m with q | ⟨q, _⟩
    · exact G1.wr a q
    · exact G0.wr a q
  · have c := cle a
    have c1 := List.count_pos_iff.mpr m
    exact G1.src a (List.count_pos_iff.mp (by omega))
end
end OH

namespace OH
open PySem PySem.Spec PyProof.Rows L2
def T.kids : T → List T
  | .lst _ ts => ts
  | .tup _ ts => ts
  | .fz _ ts => ts
  | _ => []
/-! ### data told back -/
theorem dat_int {t : T} {i : Int} (h : T.dat t = .int i) : t = .int i := by cases t <;> simp [T.dat] at h; rw [h]
theorem dat_bl {t : T} {i : Bool} (h : T.dat t = .bl i) : t = .bl i := by cases t <;> simp [T.dat] at h; rw [h]
theorem dat_str {t : T} {i : Str} (h : T.dat t = .str i) : t = .str i := by cases t <;> simp [T.dat] at h; rw [h]
theorem dat_non {t : T} (h : T.dat t = .non) : t = .non := by cases t <;> simp [T.dat] at h; rfl
theorem dat_lst {t : T} {xs : List D} (h : T.dat t = .lst xs) : ∃ a ts, t = .lst a ts ∧ T.dats ts = xs := by
  cases t <;> simp [T.dat] at h
  exact ⟨_, _, rfl, h⟩
theorem dat_tup {t : T} {xs : List D} (h : T.dat t = .tup xs) : ∃ a ts, t = .tup a ts ∧ T.dats ts = xs := by
  cases t <;> simp [T.dat] at h
  exact ⟨_, _, rfl, h⟩
theorem dat_fzl {t : T} {xs : List D} (h : T.dat t = .fzl xs) : ∃ a ts, t = .fz a ts ∧ T.dats ts = xs := by
  cases t <;> simp [T.dat] at h
  exact ⟨_, _, rfl, h⟩
theorem dats_len : ∀ ts : List T, (T.dats ts).length = ts.length
  | [] => rfl
  | t :: ts => by unfold T.dats; rw [List.length_cons, List.length_cons, dats_len ts]
theorem dats_nil {ts : List T} (h : T.dats ts = []) : ts = [] := by cases ts <;> simp [T.dats] at h; rfl
theorem dats_cons {ts : List T} {d : D} {ds : List D} (h : T.dats ts = d :: ds) : ∃ t r, ts = t :: r ∧ T.dat t = d ∧ T.dats r = ds := by
  cases ts with
  | nil => simp [T.dats] at h
  | cons t r => unfold T.dats at h; cases h; exact ⟨t, r, rfl, rfl, rfl⟩
theorem dats_one {ts : List T} {d : D} (h : T.dats ts = [d]) : ∃ t, ts = [t] ∧ T.dat t = d := by
  obtain ⟨t, r, rfl, h1, h2⟩ := dats_cons h
  rw [dats_nil h2]; exact ⟨t, rfl, h1⟩
theorem dats_two {ts : List T} {d e : D} (h : T.dats ts = [d, e]) : ∃ t u, ts = [t, u] ∧ T.dat t = d ∧ T.dat u = e := by
  obtain ⟨t, r, rfl, h1, h2⟩ := dats_cons h
  obtain ⟨u, rfl, h3⟩ := dats_one h2
  exact ⟨t, u, rfl, h1, h3⟩
theorem dats_three {ts : List T} {d e f : D} (h : T.dats ts = [d, e, f]) : ∃ t u w, ts = [t, u, w] ∧ T.dat t = d ∧ T.dat u = e ∧ T.dat w = f := by
  obtain ⟨t, r, rfl, h1, h2⟩ := dats_cons h
  obtain ⟨u, w, rfl, h3, h4⟩ := dats_two h2
  exact ⟨t, u, w, rfl, h1, h3, h4⟩
theorem dats_app (xs ys : List T) : T.dats (xs ++ ys) = T.dats xs ++ T.dats ys := by rw [dats_map, dats_map, dats_map, List.map_append]
theorem las_app (xs ys : List T) : T.las (xs ++ ys) = T.las xs ++ T.las ys := by rw [las_flat, las_flat, las_flat, List.flatMap_append]
theorem dats_ints : ∀ {ts : List T} {ns : List Int}, intsOf (T.dats ts) = some ns → ts = ns.map T.int
  | [], ns, h => by
    simp only [T.dats, intsOf, Option.some.injEq] at h
    subst h; rfl
  | t :: ts, ns, h => by
    unfold T.dats at h
    cases hd : T.dat t <;> rw [hd] at h <;> simp only [intsOf, Option.map_eq_some_iff, reduceCtorEq] at h
    obtain ⟨ms, h1, rfl⟩ := h
    rw [dat_int hd, dats_ints h1]; rfl
theorem dats_bls : ∀ {ts : List T} {ns : List Bool}, blsOf (T.dats ts) = some ns → ts = ns.map T.bl
  | [], ns, h => by
    simp only [T.dats, blsOf, Option.some.injEq] at h
    subst h; rfl
  | t :: ts, ns, h => by
    unfold T.dats at h
    cases hd : T.dat t <;> rw [hd] at h <;> simp only [blsOf, Option.map_eq_some_iff, reduceCtorEq] at h
    obtain ⟨ms, h1, rfl⟩ := h
    rw [dat_bl hd, dats_bls h1]; rfl
theorem vals_ints (ns : List Int) : vals (ns.map T.int) = ns.map V.int := by
  unfold vals; rw [List.map_map]; rfl
theorem vals_bls (ns : List Bool) : vals (ns.map T.bl) = ns.map V.bl := by
  unfold vals; rw [List.map_map]; rfl
theorem dats_mapint (ns : List Int) : T.dats (ns.map T.int) = ns.map D.int := by
  rw [dats_map, List.map_map]; rfl
theorem las_ints (ns : List Int) : T.las (ns.map T.int) = [] := by
  rw [las_flat]
  induction ns with
  | nil => rfl
  | cons n ns ih => rw [List.map_cons, List.flatMap_cons, ih]; rfl
theorem atm_la {t : T} (h : D.atm (T.dat t) = true) : T.la t = [] ∧ (∀ K H, T.ok K H t) ∧ flatV t.val = true := by
  cases t <;> simp [T.dat, D.atm] at h <;> exact ⟨by simp [T.la], fun K H => by simp [T.ok], rfl⟩
/-- a thing of flat data is laid as its data -/
theorem dp_ok {K : PySem.W.Frag} {H : Hp} : ∀ (t : T), T.ok K H t → D.flat (T.dat t) = true → L2.Dp K H t.val (D.py (T.dat t)) := by
  intro t
  refine T.rec (motive_1 := fun t => T.ok K H t → D.flat (T.dat t) = true → L2.Dp K H t.val (D.py (T.dat t))) (motive_2 := fun ts => T.oks K H ts → D.flatL (T.dats ts) = true → L2.DpAll K H (vals ts) (D.pyL (T.dats ts))) ?_ ?_ ?_ ?_ ?_ ?_ ?_ ?_ ?_ ?_ ?_ ?_ t
  · intro _ _; exact .non
  · intro b _ _; exact .bl b
  · intro b _ _; exact .int b
  · intro b _ _; exact .str b
  · intro a ts ih ok h
    unfold T.ok at ok
    unfold T.dat at h ⊢
    unfold D.flat at h
    unfold D.py
    exact .lst (SqL.of ok.1) (ih ok.2 h)
  · intro a ts ih ok h
    unfold T.ok at ok
    unfold T.dat at h ⊢
    unfold D.flat at h
    unfold D.py
    exact .tup (SqT.of ok.1) (ih ok.2 h)
  · intro a _ h; simp [T.dat, D.flat] at h
  · intro a ts _ _ h; simp [T.dat, D.flat] at h
  · intro a vs _ h; simp [T.dat, D.flat] at h
  · intro a tp vs _ h; simp [T.dat, D.flat] at h
  · intro _ _; exact .nil
  · intro t ts h1 h2 ok h
    unfold T.oks at ok
    unfold T.dats at h ⊢
    unfold D.flatL at h
    rw [Bool.and_eq_true] at h
    unfold D.pyL
    exact .cons (h1 ok.1 h.1) (h2 ok.2 h.2)
theorem eqv_py : ∀ (d e : D), D.flat d = true → D.flat e = true → PyData.eqv (D.py d) (D.py e) = D.eqv d e := by
  intro d
  refine D.rec (motive_1 := fun d => ∀ e, D.flat d = true → D.flat e = true → PyData.eqv (D.py d) (D.py e) = D.eqv d e) (motive_2 := fun ds => ∀ es, D.flatL ds = true → D.flatL es = true → PyData.eqvAll (D.pyL ds) (D.pyL es) = D.eqvL ds es) ?_ ?_ ?_ ?_ ?_ ?_ ?_ ?_ ?_ ?_ ?_ ?_ d
  · intro e _ h2; cases e <;> simp_all [D.py, D.eqv, PyData.eqv, D.flat]
  · intro b e _ h2; cases e <;> simp_all [D.py, D.eqv, PyData.eqv, D.flat]
  · intro b e _ h2; cases e <;> simp_all [D.py, D.eqv, PyData.eqv, D.flat]
  · intro b e _ h2; cases e <;> simp_all [D.py, D.eqv, PyData.eqv, D.flat]
  · intro xs ih e h1 h2
    cases e <;> simp_all [D.py, D.eqv, PyData.eqv, D.flat]
  · intro xs ih e h1 h2
    cases e <;> simp_all [D.py, D.eqv, PyData.eqv, D.flat]
  · intro e h1; simp [D.flat] at h1
  · intro xs _ e h1; simp [D.flat] at h1
  · intro n e h1; simp [D.flat] at h1
  · intro e h1; simp [D.flat] at h1
  · intro es _ h2; cases es <;> simp [D.pyL, D.eqvL, PyData.eqvAll]
  · intro x xs h1 h2 es f1 f2
    cases es with
    | nil => simp [D.pyL, D.eqvL, PyData.eqvAll]
    | cons e es =>
      unfold D.flatL at f1 f2
      rw [Bool.and_eq_true] at f1 f2
      unfold D.pyL D.eqvL PyData.eqvAll
      rw [h1 e f1.1 f2.1, h2 es f1.2 f2.2]
theorem lay_py : ∀ (d : D), D.flat d = true → D.txt d = true → PyData.canLay0 (D.py d) = true ∧ PyData.depth (D.py d) = D.height d := by
  intro d
  refine D.rec (motive_1 := fun d => D.flat d = true → D.txt d = true → PyData.canLay0 (D.py d) = true ∧ PyData.depth (D.py d) = D.height d) (motive_2 := fun ds => D.flatL ds = true → D.txtL ds = true → PyData.canLayAll0 (D.pyL ds) = true ∧ PyData.depthAll (D.pyL ds) = D.heightL ds) ?_ ?_ ?_ ?_ ?_ ?_ ?_ ?_ ?_ ?_ ?_ ?_ d
  · intro _ _; simp [D.py, PyData.canLay0, PyData.depth, D.height]
  · intro b _ _; simp [D.py, PyData.canLay0, PyData.depth, D.height]
  · intro b _ _; simp [D.py, PyData.canLay0, PyData.depth, D.height]
  · intro b _ h; simp_all [D.py, PyData.canLay0, PyData.depth, D.height, D.txt, PyData.strOk]
  · intro xs ih h1 h2
    unfold D.flat at h1
    unfold D.txt at h2
    obtain ⟨a, b⟩ := ih h1 h2
    simp [D.py, PyData.canLay0, PyData.depth, D.height, a, b]
  · intro xs ih h1 h2
    unfold D.flat at h1
    unfold D.txt at h2
    obtain ⟨a, b⟩ := ih h1 h2
    simp [D.py, PyData.canLay0, PyData.depth, D.height, a, b]
  · intro h1; simp [D.flat] at h1
  · intro xs _ h1; simp [D.flat] at h1
  · intro n h1; simp [D.flat] at h1
  · intro h1; simp [D.flat] at h1
  · intro _ _; simp [D.pyL, PyData.canLayAll0, PyData.depthAll, D.heightL]
  · intro x xs h1 h2 f1 f2
    unfold D.flatL at f1
    unfold D.txtL at f2
    rw [Bool.and_eq_true] at f1 f2
    obtain ⟨a, b⟩ := h1 f1.1 f2.1
    obtain ⟨a', b'⟩ := h2 f1.2 f2.2
    simp [D.pyL, PyData.canLayAll0, PyData.depthAll, D.heightL, a, b, a', b']
theorem shaped_py {d : D} (h : d.eqOk = true) : SeqAt.shaped d.py = true ∧ d.flat = true := by
  unfold D.eqOk at h
  simp only [Bool.and_eq_true, decide_eq_true_eq] at h
  obtain ⟨a, b⟩ := lay_py d h.1.1 h.1.2
  refine ⟨?_, h.1.1⟩
  unfold SeqAt.shaped
  rw [a, b, Bool.true_and, decide_eq_true_eq]
  omega
theorem eqOk_all {xs : List D} (h : xs.all D.eqOk = true) : SeqAt.shaped (.list (D.pyL xs)) = true ∧ D.flatL xs = true := by
  induction xs with
  | nil => exact ⟨by decide, rfl⟩
  | cons x xs ih =>
    rw [List.all_cons, Bool.and_eq_true] at h
    obtain ⟨s1, f1⟩ := shaped_py h.1
    obtain ⟨s2, f2⟩ := ih h.2
    unfold SeqAt.shaped at s1 s2 ⊢
    rw [Bool.and_eq_true, decide_eq_true_eq] at s1 s2 ⊢
    have hx := h.1
    unfold D.eqOk at hx
    simp only [Bool.and_eq_true, decide_eq_true_eq] at hx
    obtain ⟨a, b⟩ := lay_py x hx.1.1 hx.1.2
    refine ⟨⟨?_, ?_⟩, ?_⟩
    · unfold D.pyL PyData.canLay0 PyData.canLayAll0
      have := s2.1
      unfold PyData.canLay0 at this
      rw [s1.1, this]; rfl
    · have := s2.2
      unfold PyData.depth at this ⊢
      unfold D.pyL PyData.depthAll
      omega
    · unfold D.flatL; rw [f1, f2]; rfl
theorem pyL_map : ∀ xs : List D, D.pyL xs = xs.map D.py
  | [] => rfl
  | x :: xs => by unfold D.pyL; rw [pyL_map xs]; rfl
end OH

namespace OH
open PySem PySem.Spec PyProof.Rows L2
structure Src (K : PySem.W.Frag) (H : Hp) (olds : Hold) (ts : List T) (ks : List OH.Dp) : Prop where
  len : ks.length = ts.length
  ok : ∀ t ∈ ts, T.ok K H t
  own : ∀ (j : Nat) (t : T) (k : OH.Dp), ts[j]? = some t → ks[j]? = some k → ∀ a ∈ T.owns t.kids k.pred, a ∈ hOwn olds
  cnt : ∀ a, (ts.flatMap fun t => T.las t.kids).count a ≤ (hLa olds).count a
section
variable {K : PySem.W.Frag} {H0 H H' : Hp} {IO SR : List Addr} {R olds : Hold} {ts : List T} {ks : List Dp} {k : Dp}
theorem kids_ok {t x : T} (h : T.ok K H t) (hx : x ∈ t.kids) : T.ok K H x := by
  cases t <;> simp only [T.kids, List.not_mem_nil] at hx <;> (unfold T.ok at h; exact oks_iff.mp h.2 x hx)
theorem mnL_le : ∀ {ks : List Dp} {k : Dp}, k ∈ ks → (mnL (ks.map Dp.pred)).le k.pred = true
  | j :: ks, k, h => by
    show ((j.pred).mn (mnL (ks.map Dp.pred))).le k.pred = true
    rcases List.mem_cons.mp h with e | h
    · rw [e]; exact Dp.mn_le_l _ _
    · exact Dp.le_trans (Dp.mn_le_r _ _) (mnL_le h)
theorem mnL_le' : ∀ {ks : List Dp} {k : Dp}, k ∈ ks → (mnL ks).le k = true
  | j :: ks, k, h => by
    show (j.mn (mnL ks)).le k = true
    rcases List.mem_cons.mp h with e | h
    · rw [e]; exact Dp.mn_le_l _ _
    · exact Dp.le_trans (Dp.mn_le_r _ _) (mnL_le' h)
theorem Src.kid (S : Src K H olds ts ks) {x : T} (h : ∃ t ∈ ts, x ∈ t.kids) : T.ok K H x ∧ ∀ a ∈ T.own x (mnL (ks.map Dp.pred)), a ∈ hOwn olds := by
  obtain ⟨t, ht, hx⟩ := h
  refine ⟨kids_ok (S.ok t ht) hx, fun a m => ?_⟩
  obtain ⟨j, hj⟩ := List.getElem?_of_mem ht
  have hjl : j < ts.length := (List.getElem?_eq_some_iff.mp hj).1
  have hk : ks[j]? = some (ks[j]'(by rw [S.len]; exact hjl)) := List.getElem?_eq_getElem _
  refine S.own j t _ hj hk a ?_
  rw [owns_flat]
  exact List.mem_flatMap.mpr ⟨x, hx, own_mono (mnL_le (List.getElem_mem _)) _ _ m⟩
theorem Src.newL (S : Src K H olds ts ks) (G : Good K H0 IO SR H (olds ++ R)) {ts' : List T} {p : Addr} (hp : H p = none) (sub : ∀ x ∈ ts', ∃ t ∈ ts, x ∈ t.kids) (cnt : ∀ a, (T.las ts').count a ≤ (ts.flatMap fun t => T.las t.kids).count a) :
    Good K H0 IO SR (upd H p (.lst (vals ts'))) ((.lst p ts', (mnL (ks.map Dp.pred)).succ) :: R) :=
  G.newL hp (fun x hx => (S.kid (sub x hx)).1) (fun a m => by
    rw [owns_flat] at m
    obtain ⟨x, hx, m⟩ := List.mem_flatMap.mp m
    exact (S.kid (sub x hx)).2 a m) (fun a => Nat.le_trans (cnt a) (S.cnt a))
theorem Src.newT (S : Src K H olds ts ks) (G : Good K H0 IO SR H (olds ++ R)) {ts' : List T} {p : Addr} (hp : H p = none) (sub : ∀ x ∈ ts', ∃ t ∈ ts, x ∈ t.kids) (cnt : ∀ a, (T.las ts').count a ≤ (ts.flatMap fun t => T.las t.kids).count a) :
    Good K H0 IO SR (upd H p (.tup (vals ts'))) ((.tup p ts', (mnL (ks.map Dp.pred)).succ) :: R) :=
  G.newT hp (fun x hx => (S.kid (sub x hx)).1) (fun a m => by
    rw [owns_flat] at m
    obtain ⟨x, hx, m⟩ := List.mem_flatMap.mp m
    exact (S.kid (sub x hx)).2 a m) (fun a => Nat.le_trans (cnt a) (S.cnt a))
/-- a new list of plain things -/
theorem newL0 (G : Good K H0 IO SR H (olds ++ R)) {ts' : List T} {p : Addr} (hp : H p = none) (ok : ∀ t ∈ ts', T.ok K H t) (hl : T.las ts' = []) : Good K H0 IO SR (upd H p (.lst (vals ts'))) ((.lst p ts', k.succ) :: R) :=
  Good.newL (old := []) (k := k) G.dropL hp ok (fun a m => by
    have := owns_la ts' k a m
    rw [hl] at this; cases this) (fun a => by rw [hl]; exact Nat.zero_le _)
theorem atomG (G : Good K H0 IO SR H (olds ++ R)) {t : T} (hl : T.la t = [] := by rfl) (ho : T.ok K H t := by simp [T.ok]) : Good K H0 IO SR H ((t, k) :: R) := G.dropL.plain ho hl
/-- something fresh that is no list and that nobody keeps -/
theorem junk (G : Good K H0 IO SR H R) {p : Addr} {o : HO} (hp : H p = none) : Good K H0 IO SR (upd H p o) R := by
  refine Good.exch (old := []) (new := []) G (fun q hq => nomatch hq) (fun q hq => ok_new hp (G.ok q hq)) (fun a m => nomatch m) (fun a h => Nat.le_refl _) (fun a m => ?_) fun a h m => ?_
  · obtain ⟨xs, q⟩ := (G.io a m).2
    rw [upd_ne (ne_of_none q hp)]; exact ⟨xs, q⟩
  · exact upd_ne (by rintro rfl; exact (G.alive h) hp)
theorem flat2 (t u : T) : ([t, u].flatMap fun t => T.las t.kids) = T.las t.kids ++ T.las u.kids := by simp
theorem flat1 (t : T) : ([t].flatMap fun t => T.las t.kids) = T.las t.kids := by simp
theorem las_cons (x : T) (xs : List T) : T.las (x :: xs) = T.la x ++ T.las xs := by simp [T.las]
theorem las_sub {xs ys : List T} (h : xs.Sublist ys) (a : Addr) : (T.las xs).count a ≤ (T.las ys).count a := by
  induction h with
  | slnil => exact Nat.le_refl _
  | cons x _ ih => rw [las_cons, List.count_append]; omega
  | cons_cons x _ ih => rw [las_cons, las_cons, List.count_append, List.count_append]; omega
theorem Src.atms (S : Src K H olds ts ks) : True := trivial
theorem vals_app (xs ys : List T) : vals (xs ++ ys) = vals xs ++ vals ys := List.map_append

/-! ### numbers in order -/
theorem insI_perm (x : Int) : ∀ ys : List Int, (insI x ys).Perm (x :: ys)
  | [] => .refl _
  | y :: ys => by
    unfold insI
    split
    · exact .refl _
    · exact ((insI_perm x ys).cons y).trans (.swap ..)
theorem isort_perm : ∀ xs : List Int, (isort xs).Perm xs
  | [] => .refl _
  | x :: xs => (insI_perm x _).trans ((isort_perm xs).cons x)
theorem insI_sorted (x : Int) : ∀ ys : List Int, ys.Pairwise (· ≤ ·) → (insI x ys).Pairwise (· ≤ ·)
  | [], _ => by simp [insI]
  | y :: ys, h => by
    unfold insI
    cases h with
    | cons h1 h2 =>
      split
      · rename_i c
        refine .cons (fun z hz => ?_) (.cons h1 h2)
        rcases List.mem_cons.mp hz with e | hz
        · rw [e]; exact c
        · exact Int.le_trans c (h1 z hz)
      · rename_i c
        refine .cons (fun z hz => ?_) (insI_sorted x ys h2)
        rcases List.mem_cons.mp ((insI_perm x ys).mem_iff.mp hz) with e | hz
        · rw [e]; omega
        · exact h1 z hz
theorem isort_sorted : ∀ xs : List Int, (isort xs).Pairwise (· ≤ ·)
  | [] => .nil
  | x :: xs => insI_sorted x _ (isort_sorted xs)
theorem sorted_unique {xs ys : List Int} (h : xs.Perm ys) (h1 : xs.Pairwise (· ≤ ·)) (h2 : ys.Pairwise (· ≤ ·)) : xs = ys :=
  List.Perm.eq_of_pairwise (le := fun a b => a ≤ b) (fun a b _ _ p q => Int.le_antisymm p q) h1 h2 h
theorem sIx_eq (n : Nat) (i : Int) (dflt : Nat) : HT.sIx n dflt (some i) = sIx n i := by
  unfold HT.sIx sIx
  by_cases c : i < 0
  · simp only [c, if_true]; rw [if_neg (by omega)]
  · simp only [c, if_false]; rw [if_pos (by omega)]
theorem cut_eq (ts : List T) (lo hi : Option Int) : cutV (vals ts) lo hi = vals (slice ts lo hi) := by
  unfold cutV slice vals
  rw [List.map_take, List.map_drop, List.length_map]
  cases lo <;> cases hi <;> simp only [sIx_eq] <;> rfl
theorem slice_dats (ts : List T) (lo hi : Option Int) : T.dats (slice ts lo hi) = slice (T.dats ts) lo hi := by
  rw [dats_map, dats_map]
  unfold slice
  simp only [List.map_take, List.map_drop, List.length_map]
theorem slice_sub {α : Type} (xs : List α) (lo hi : Option Int) : (slice xs lo hi).Sublist xs := by
  unfold slice
  exact (List.take_sublist _ _).trans (List.drop_sublist _ _)
theorem slice_all {α : Type} (xs : List α) (lo hi : Option Int) (h1 : HT.sIx xs.length 0 lo = 0) (h2 : HT.sIx xs.length xs.length hi = xs.length) : slice xs lo hi = xs := by
  unfold slice
  cases lo with
  | none =>
    cases hi with
    | none => simp
    | some j =>
      rw [sIx_eq] at h2
      show (xs.drop 0).take (sIx xs.length j - 0) = xs
      rw [h2]; simp
  | some i =>
    rw [sIx_eq] at h1
    cases hi with
    | none =>
      show (xs.drop (sIx xs.length i)).take (xs.length - sIx xs.length i) = xs
      rw [h1]; simp
    | some j =>
      rw [sIx_eq] at h2
      show (xs.drop (sIx xs.length i)).take (sIx xs.length j - sIx xs.length i) = xs
      rw [h1, h2]; simp
theorem any_map (xs : List T) (p : D → Bool) : (T.dats xs).any p = xs.any fun t => p t.dat := by
  rw [dats_map, List.any_map]; rfl
theorem eqV_atm {t u : T} (h : D.atm t.dat = true) (h2 : D.atm u.dat = true) : eqV t.val u.val = D.eqv t.dat u.dat := by
  cases t <;> simp [T.dat, D.atm] at h <;> cases u <;> simp [T.dat, D.atm] at h2 <;> simp [T.val, T.dat, eqV, D.eqv]
theorem inV_eq {u : T} {xs : List T} (h : D.atm u.dat = true) (h2 : (T.dats xs).all D.atm = true) : inV u.val (vals xs) = (T.dats xs).any fun x => D.eqv x u.dat := by
  unfold inV
  induction xs with
  | nil => rfl
  | cons x xs ih =>
    unfold T.dats at h2 ⊢
    rw [List.all_cons, Bool.and_eq_true] at h2
    show (eqV x.val u.val || (vals xs).any _) = _
    rw [List.any_cons, eqV_atm h2.1 h, ih h2.2]
theorem flats {xs : List T} (h2 : (T.dats xs).all D.atm = true) : (vals xs).all flatV = true := by
  induction xs with
  | nil => rfl
  | cons x xs ih =>
    unfold T.dats at h2
    rw [List.all_cons, Bool.and_eq_true] at h2
    show (flatV x.val && (vals xs).all flatV) = true
    rw [(atm_la h2.1).2.2, ih h2.2]; rfl
theorem las_atm {xs : List T} (h2 : (T.dats xs).all D.atm = true) : T.las xs = [] := by
  induction xs with
  | nil => rfl
  | cons x xs ih =>
    unfold T.dats at h2
    rw [List.all_cons, Bool.and_eq_true] at h2
    unfold T.las
    rw [(atm_la h2.1).1, ih h2.2]; rfl
theorem any_eqv {u : D} {xs : List D} (h : u.eqOk = true) (h2 : xs.all D.eqOk = true) : ((D.pyL xs).any fun z => PyData.eqv z u.py) = xs.any fun x => D.eqv x u := by
  induction xs with
  | nil => rfl
  | cons x xs ih =>
    rw [List.all_cons, Bool.and_eq_true] at h2
    unfold D.pyL
    rw [List.any_cons, List.any_cons, ih h2.2, eqv_py x u (shaped_py h2.1).2 (shaped_py h).2]
/-- its kind -/
def kindD : D → String
  | .non => "NoneType" | .bl _ => "bool" | .int _ => "int" | .str _ => "str" | .lst _ => "list" | .tup _ => "tuple" | .dct => "dict" | .fzl _ => "" | .rawl _ => "" | .oth => ""
theorem ty_ok {t : T} (ok : T.ok K H t) (h : tyD t.dat = true) : TyX K H t.val (.type (kindD t.dat)) := by
  cases t <;> simp [T.dat, tyD] at h <;> (unfold T.ok at ok)
  · exact .base .non
  · exact .base (.bl _)
  · exact .base (.int _)
  · exact .base (.str _)
  · exact .base (.lst ok.1)
  · exact .base (.tup ok.1)
  · exact .base (.dK ok)
theorem kit_D (d : D) (c : String) (h : tyD d = true) (hc : tyName c = true) : kitB (kindD d) c = some (isiD d c) := by
  simp only [tyName, Bool.or_eq_true, beq_iff_eq] at hc
  rcases hc with (((rfl | rfl) | rfl) | rfl) | rfl <;> (cases d <;> first | (simp [tyD] at h; done) | (simp only [kindD, isiD]; decide +kernel))

theorem lim_eq : sizeLine = LIM := by decide
theorem eq_dec (b c : Bool) : decide (b = c) = (b == c) := by cases b <;> cases c <;> rfl
def rgI (a b : Int) : List Int := (List.range (b - a).toNat).map fun (i : Nat) => a + (i : Int)
theorem rgI_dats (a b : Int) : T.dats ((rgI a b).map T.int) = rangeL a (b - a).toNat := by
  rw [dats_mapint]; unfold rgI rangeL; rw [List.map_map]; rfl
theorem head_cnt (t : T) (ts : List T) (a : Addr) : (T.las t.kids).count a ≤ ((t :: ts).flatMap fun t => T.las t.kids).count a := by
  rw [List.flatMap_cons, List.count_append]; omega
theorem hLa_zip : ∀ {ts : List T} {ks : List Dp}, ks.length = ts.length → hLa (ts.zip ks) = T.las ts
  | [], [], _ => rfl
  | t :: ts, k :: ks, h => by
    rw [List.zip_cons_cons, hLa_cons, las_cons, hLa_zip (by simpa using h)]
theorem own_zip {ts : List T} {ks : List Dp} (h : ks.length = ts.length) {a : Addr} (m : a ∈ T.owns ts (mnL ks)) : a ∈ hOwn (ts.zip ks) := by
  rw [owns_flat] at m
  obtain ⟨x, hx, m⟩ := List.mem_flatMap.mp m
  obtain ⟨j, hj⟩ := List.getElem?_of_mem hx
  obtain ⟨hjl, ej⟩ := List.getElem?_eq_some_iff.mp hj
  refine hOwn_mem.mpr ⟨(x, ks[j]'(by omega)), ?_, own_mono (mnL_le' (List.getElem_mem _)) _ _ m⟩
  refine List.mem_of_getElem? (i := j) ?_
  rw [List.getElem?_zip_eq_some]
  exact ⟨hj, List.getElem?_eq_getElem _⟩
theorem Src.sameT {b : Addr} {xs : List T} {ts : List T} (S : Src K H olds (.tup b xs :: ts) ks) (G : Good K H0 IO SR H (olds ++ R)) : Good K H0 IO SR H ((.tup b xs, (mnL (ks.map Dp.pred)).succ) :: R) := by
  refine Good.same (new := [(.tup b xs, (mnL (ks.map Dp.pred)).succ)]) G (fun p hp => ?_) (fun a m => ?_) fun a => ?_
  · rw [List.mem_singleton.mp hp]; exact S.ok _ List.mem_cons_self
  · obtain ⟨p, hp, m⟩ := hOwn_mem.mp m
    rw [List.mem_singleton.mp hp] at m
    unfold T.own at m
    rw [if_pos (Dp.succ_pos _), Dp.pred_succ, owns_flat] at m
    obtain ⟨x, hx, m⟩ := List.mem_flatMap.mp m
    exact (S.kid ⟨_, List.mem_cons_self, hx⟩).2 a m
  · have e : hLa [((.tup b xs : T), (mnL (ks.map Dp.pred)).succ)] = T.las (T.kids (.tup b xs)) := by simp [hLa, T.la, T.kids]
    rw [e]
    exact Nat.le_trans (head_cnt _ ts a) (S.cnt a)
theorem Src.kid0 {t x : T} {k0 : Dp} {kr : List Dp} {ts : List T} (S : Src K H olds (t :: ts) (k0 :: kr)) (G : Good K H0 IO SR H (olds ++ R)) (hx : x ∈ t.kids) : Good K H0 IO SR H ((x, k0.pred) :: R) := by
  refine Good.same (new := [(x, k0.pred)]) G (fun p hp => ?_) (fun a m => ?_) fun a => ?_
  · rw [List.mem_singleton.mp hp]; exact kids_ok (S.ok _ List.mem_cons_self) hx
  · obtain ⟨p, hp, m⟩ := hOwn_mem.mp m
    rw [List.mem_singleton.mp hp] at m
    exact S.own 0 t k0 rfl rfl a (by rw [owns_flat]; exact List.mem_flatMap.mpr ⟨x, hx, m⟩)
  · have e : hLa [(x, k0.pred)] = T.las [x] := by simp [hLa, T.las]
    rw [e]
    exact Nat.le_trans (las_sub (List.singleton_sublist.mpr hx) a) (Nat.le_trans (head_cnt _ ts a) (S.cnt a))
theorem dats_get {ts : List T} {j : Nat} {d : D} (h : (T.dats ts)[j]? = some d) : ∃ t, ts[j]? = some t ∧ T.dat t = d ∧ (vals ts)[j]? = some t.val := by
  rw [dats_map, List.getElem?_map] at h
  cases e : ts[j]? with
  | none => rw [e] at h; cases h
  | some t =>
    rw [e] at h
    exact ⟨t, rfl, by simpa using h, by show (ts.map T.val)[j]? = _; rw [List.getElem?_map, e]; rfl⟩
theorem rg_vals (a b : Int) : rgV a b = vals ((rgI a b).map T.int) := by
  unfold rgV vals rgI
  rw [List.map_map, List.map_map]; rfl
variable {o : Op} {ds : List D} {d : D} {Q : VK}
theorem perm_las {xs ys : List T} (h : xs.Perm ys) (a : Addr) : (T.las xs).count a = (T.las ys).count a := by
  rw [las_flat, las_flat]
  exact (h.flatMap_right _).count_eq a
theorem sl_lst {a : Addr} {xs ts : List T} {lo hi : Option Int} (S : Src K H olds (.lst a xs :: ts) ks) (G : Good K H0 IO SR H (olds ++ R))
    (hQ : ∀ t' H', Good K H0 IO SR H' ((t', (mnL (ks.map Dp.pred)).succ) :: R) → t'.dat = .lst (slice (T.dats xs) lo hi) → Q t'.val H') : rSlL K (.ref a) lo hi H Q := by
  have o1 := S.ok _ (List.mem_cons_self)
  unfold T.ok at o1
  refine ⟨a, vals xs, rfl, SqL.of o1.1, fun p hp => ?_⟩
  rw [cut_eq]
  exact hQ (.lst p (slice xs lo hi)) _ (S.newL G hp (fun x hx => ⟨_, List.mem_cons_self, (slice_sub xs lo hi).subset hx⟩) fun b => Nat.le_trans (las_sub (slice_sub xs lo hi) b) (head_cnt (.lst a xs) ts b)) (by rw [T.dat, slice_dats])
theorem sl_fz {a : Addr} {xs ts : List T} {lo hi : Option Int} (S : Src K H olds (.fz a xs :: ts) ks) (G : Good K H0 IO SR H (olds ++ R))
    (hQ : ∀ t' H', Good K H0 IO SR H' ((t', (mnL (ks.map Dp.pred)).succ) :: R) → t'.dat = .lst (slice (T.dats xs) lo hi) → Q t'.val H') : rSlL K (.ref a) lo hi H Q := by
  have o1 := S.ok _ (List.mem_cons_self)
  unfold T.ok at o1
  refine ⟨a, vals xs, rfl, o1.1.seq, fun p hp => ?_⟩
  rw [cut_eq]
  exact hQ (.lst p (slice xs lo hi)) _ (S.newL G hp (fun x hx => ⟨_, List.mem_cons_self, (slice_sub xs lo hi).subset hx⟩) fun b => Nat.le_trans (las_sub (slice_sub xs lo hi) b) (head_cnt (.fz a xs) ts b)) (by rw [T.dat, slice_dats])
theorem sl_tup {a : Addr} {xs ts : List T} {lo hi : Option Int} (S : Src K H olds (.tup a xs :: ts) ks) (G : Good K H0 IO SR H (olds ++ R))
    (hQ : ∀ t' H', Good K H0 IO SR H' ((t', (mnL (ks.map Dp.pred)).succ) :: R) → t'.dat = .tup (slice (T.dats xs) lo hi) → Q t'.val H') : rSlA K (.ref a) lo hi H Q := by
  have o1 := S.ok _ (List.mem_cons_self)
  unfold T.ok at o1
  refine ⟨a, vals xs, rfl, SqT.of o1.1, fun hw => ?_, fun _ p hp => ?_⟩
  · rw [show (vals xs).length = xs.length from List.length_map _] at hw
    exact hQ (.tup a xs) _ (S.sameT G) (by rw [T.dat, ← slice_dats, slice_all xs lo hi hw.1 hw.2])
  · rw [cut_eq]
    exact hQ (.tup p (slice xs lo hi)) _ (S.newT G hp (fun x hx => ⟨_, List.mem_cons_self, (slice_sub xs lo hi).subset hx⟩) fun b => Nat.le_trans (las_sub (slice_sub xs lo hi) b) (head_cnt (.tup a xs) ts b)) (by rw [T.dat, slice_dats])
theorem op_ok (h : opD o ds = some d) (hd : T.dats ts = ds) (S : Src K H olds ts ks) (hz : o.keeps = true → olds = ts.zip ks) (G : Good K H0 IO SR H (olds ++ R))
    (hQ : ∀ t' H', Good K H0 IO SR H' ((t', o.dp ks) :: R) → t'.dat = d → Q t'.val H') : rO K o (vals ts) H Q := by
  cases o with
  | add =>
    simp only [opD] at h; split at h
    · cases h
      obtain ⟨t, u, rfl, e1, e2⟩ := dats_two hd
      rw [dat_int e1, dat_int e2]
      exact .inl ⟨_, _, rfl, rfl, hQ (.int _) H (atomG G) (by simp [T.dat])⟩
    · split at h <;> cases h
      rename_i hl
      obtain ⟨t, u, rfl, e1, e2⟩ := dats_two hd
      obtain ⟨a, xs, rfl, rfl⟩ := dat_lst e1
      obtain ⟨b, ys, rfl, rfl⟩ := dat_lst e2
      have o1 := S.ok _ (List.mem_cons_self)
      have o2 := S.ok _ (List.mem_cons_of_mem _ List.mem_cons_self)
      unfold T.ok at o1 o2
      rw [dats_len, dats_len] at hl
      refine .inr (.inl ⟨a, b, vals xs, vals ys, rfl, rfl, o1.1, o2.1, by rw [lim_eq]; simpa using hl, fun p hp => ?_⟩)
      rw [← vals_app]
      refine hQ (.lst p (xs ++ ys)) _ (S.newL G hp (fun x hx => ?_) fun a => ?_) (by simp [T.dat, dats_app])
      · rcases List.mem_append.mp hx with hx | hx
        · exact ⟨_, List.mem_cons_self, hx⟩
        · exact ⟨_, List.mem_cons_of_mem _ List.mem_cons_self, hx⟩
      · rw [flat2, las_app]; exact Nat.le_refl _
    · split at h <;> cases h
      rename_i hl
      obtain ⟨hl, h1, h2⟩ := hl
      obtain ⟨t, u, rfl, e1, e2⟩ := dats_two hd
      obtain ⟨a, xs, rfl, rfl⟩ := dat_tup e1
      obtain ⟨b, ys, rfl, rfl⟩ := dat_tup e2
      have o1 := S.ok _ (List.mem_cons_self)
      have o2 := S.ok _ (List.mem_cons_of_mem _ List.mem_cons_self)
      unfold T.ok at o1 o2
      rw [dats_len, dats_len] at hl
      refine .inr (.inr (.inl ⟨a, b, vals xs, vals ys, rfl, rfl, SqT.of o1.1, SqT.of o2.1, ?_, by rw [lim_eq]; simpa using hl, ?_, fun _ p hp => ?_⟩))
      · intro z; apply h1; cases xs with
        | nil => rfl
        | cons x xs => cases z
      · intro z; exfalso; apply h2; cases ys with
        | nil => rfl
        | cons x xs => cases z
      rw [← vals_app]
      refine hQ (.tup p (xs ++ ys)) _ (S.newT G hp (fun x hx => ?_) fun a => ?_) (by simp [T.dat, dats_app])
      · rcases List.mem_append.mp hx with hx | hx
        · exact ⟨_, List.mem_cons_self, hx⟩
        · exact ⟨_, List.mem_cons_of_mem _ List.mem_cons_self, hx⟩
      · rw [flat2, las_app]; exact Nat.le_refl _
    · split at h <;> cases h
      obtain ⟨t, u, rfl, e1, e2⟩ := dats_two hd
      rw [dat_str e1, dat_str e2]
      exact .inr (.inr (.inr ⟨_, _, rfl, rfl, by assumption, hQ (.str _) H (atomG G) (by simp [T.dat])⟩))
    · cases h
  | sub =>
    simp only [opD] at h; split at h
    · cases h
      obtain ⟨t, u, rfl, e1, e2⟩ := dats_two hd
      rw [dat_int e1, dat_int e2]
      exact ⟨_, _, rfl, rfl, hQ (.int _) H (atomG G) (by simp [T.dat])⟩
    · cases h
  | mul =>
    simp only [opD] at h; split at h
    · split at h <;> cases h
      rename_i c
      obtain ⟨t, u, rfl, e1, e2⟩ := dats_two hd
      rw [dat_int e1, dat_int e2]
      refine .inl ⟨_, _, rfl, rfl, ?_, hQ (.int _) H (atomG G) (by simp [T.dat])⟩
      unfold okMul at c
      simpa [CMul] using c
    · split at h <;> cases h
      rename_i c
      obtain ⟨c1, c2, c3, c4⟩ := c
      obtain ⟨t, u, rfl, e1, e2⟩ := dats_two hd
      obtain ⟨a, xs, rfl, rfl⟩ := dat_lst e1
      rw [dat_int e2]
      have o1 := S.ok _ (List.mem_cons_self)
      unfold T.ok at o1
      rw [dats_len] at c3
      refine .inr ⟨a, _, vals xs, rfl, rfl, o1.1, by omega, c2, by rw [lim_eq]; simpa using c3, fun p hp => ?_⟩
      have e : ∀ n : Nat, (List.replicate n (vals xs)).flatten = vals (List.replicate n xs).flatten := fun n => by
        unfold vals; rw [List.map_flatten, List.map_replicate]
      have e' : ∀ n : Nat, T.dats (List.replicate n xs).flatten = (List.replicate n (T.dats xs)).flatten := fun n => by
        rw [dats_map, dats_map, List.map_flatten, List.map_replicate]
      have l0 : T.las xs = [] := las_atm c4
      have l1 : ∀ n : Nat, T.las (List.replicate n xs).flatten = [] := fun n => by
        induction n with
        | zero => rfl
        | succ n ih => rw [List.replicate_succ, List.flatten_cons, las_app, l0, ih]; rfl
      rw [e]
      refine hQ (.lst p _) _ (newL0 G hp (fun x hx => ?_) (l1 _)) (by simp [T.dat, e'])
      obtain ⟨l, hl, hx⟩ := List.mem_flatten.mp hx
      rw [(List.mem_replicate.mp hl).2] at hx
      exact oks_iff.mp o1.2 x hx
    · cases h
  | fdiv =>
    simp only [opD] at h; split at h
    · split at h <;> cases h
      rename_i c
      obtain ⟨t, u, rfl, e1, e2⟩ := dats_two hd
      rw [dat_int e1, dat_int e2]
      exact ⟨_, _, rfl, rfl, c, hQ (.int _) H (atomG G) (by simp [T.dat])⟩
    · cases h
  | mod =>
    simp only [opD] at h; split at h
    · split at h <;> cases h
      rename_i c
      obtain ⟨t, u, rfl, e1, e2⟩ := dats_two hd
      rw [dat_int e1, dat_int e2]
      exact ⟨_, _, rfl, rfl, c, hQ (.int _) H (atomG G) (by simp [T.dat])⟩
    · cases h
  | pow =>
    simp only [opD] at h; split at h
    · split at h <;> cases h
      rename_i c
      obtain ⟨t, u, rfl, e1, e2⟩ := dats_two hd
      rw [dat_int e1, dat_int e2]
      exact ⟨_, _, rfl, rfl, c, hQ (.int _) H (atomG G) (by simp [T.dat])⟩
    · cases h
  | neg =>
    simp only [opD] at h; split at h
    · cases h
      obtain ⟨t, rfl, e1⟩ := dats_one hd
      rw [dat_int e1]
      exact ⟨_, rfl, hQ (.int _) H (atomG G) (by simp [T.dat])⟩
    · cases h
  | eq =>
    simp only [opD] at h; split at h
    · split at h <;> cases h
      rename_i c
      rw [Bool.and_eq_true] at c
      obtain ⟨t, u, rfl, e1, e2⟩ := dats_two hd
      subst e1; subst e2
      obtain ⟨s1, f1⟩ := shaped_py c.1
      obtain ⟨s2, f2⟩ := shaped_py c.2
      refine ⟨_, _, dp_ok t (S.ok _ List.mem_cons_self) f1, dp_ok u (S.ok _ (List.mem_cons_of_mem _ List.mem_cons_self)) f2, s1, s2, ?_⟩
      rw [eqv_py _ _ f1 f2]
      exact hQ (.bl _) H (atomG G) (by simp [T.dat])
    · cases h
  | ne =>
    simp only [opD] at h; split at h
    · split at h <;> cases h
      rename_i c
      rw [Bool.and_eq_true] at c
      obtain ⟨t, u, rfl, e1, e2⟩ := dats_two hd
      subst e1; subst e2
      obtain ⟨s1, f1⟩ := shaped_py c.1
      obtain ⟨s2, f2⟩ := shaped_py c.2
      refine ⟨_, _, dp_ok t (S.ok _ List.mem_cons_self) f1, dp_ok u (S.ok _ (List.mem_cons_of_mem _ List.mem_cons_self)) f2, s1, s2, ?_⟩
      rw [eqv_py _ _ f1 f2]
      exact hQ (.bl _) H (atomG G) (by simp [T.dat])
    · cases h
  | lt | le | gt | ge =>
    simp only [opD] at h; split at h
    · cases h
      obtain ⟨t, u, rfl, e1, e2⟩ := dats_two hd
      rw [dat_int e1, dat_int e2]
      exact ⟨_, _, rfl, rfl, hQ (.bl _) H (atomG G) (by simp [T.dat])⟩
    · cases h
  | isN =>
    simp only [opD] at h; split at h
    · cases h
      obtain ⟨t, rfl, e1⟩ := dats_one hd
      subst e1
      show Q (.bl (decide (t.val = .non))) H
      refine hQ (.bl _) H (atomG G) ?_
      cases t <;> simp [T.dat, T.val]
    · cases h
  | notN =>
    simp only [opD] at h; split at h
    · cases h
      obtain ⟨t, rfl, e1⟩ := dats_one hd
      subst e1
      show Q (.bl (!decide (t.val = .non))) H
      refine hQ (.bl _) H (atomG G) ?_
      cases t <;> simp [T.dat, T.val]
    · cases h
  | isB b =>
    simp only [opD] at h; split at h
    · cases h
      obtain ⟨t, rfl, e1⟩ := dats_one hd
      subst e1
      show Q (.bl (decide (t.val = .bl b))) H
      refine hQ (.bl _) H (atomG G) ?_
      cases t <;> simp [T.dat, T.val, eq_dec]
    · cases h
  | inn =>
    simp only [opD] at h; split at h
    · split at h <;> cases h
      rename_i c
      rw [Bool.and_eq_true] at c
      obtain ⟨t, u, rfl, e1, e2⟩ := dats_two hd
      obtain ⟨b, ys, rfl, rfl⟩ := dat_lst e2
      subst e1
      obtain ⟨s1, f1⟩ := shaped_py c.1
      obtain ⟨s2, f2⟩ := eqOk_all c.2
      have o2 := dp_ok (K := K) (H := H) (.lst b ys) (S.ok _ (List.mem_cons_of_mem _ List.mem_cons_self)) (by unfold T.dat D.flat; exact f2)
      unfold T.dat D.py at o2
      refine .inl ⟨_, _, dp_ok t (S.ok _ List.mem_cons_self) f1, o2, s1, s2, ?_⟩
      rw [any_eqv c.1 c.2]
      exact hQ (.bl _) H (atomG G) (by simp [T.dat])
    · split at h <;> cases h
      rename_i c
      rw [Bool.and_eq_true] at c
      obtain ⟨t, u, rfl, e1, e2⟩ := dats_two hd
      obtain ⟨b, ys, rfl, rfl⟩ := dat_tup e2
      subst e1
      have o2 := S.ok _ (List.mem_cons_of_mem _ List.mem_cons_self)
      unfold T.ok at o2
      refine .inr ⟨b, vals ys, rfl, .inr (SqT.of o2.1), (atm_la c.1).2.2, flats c.2, ?_⟩
      rw [if_neg (by decide), inV_eq c.1 c.2]
      exact hQ (.bl _) H (atomG G) (by simp [T.dat])
    · cases h
  | notin =>
    simp only [opD] at h; split at h
    · split at h <;> cases h
      rename_i c
      rw [Bool.and_eq_true] at c
      obtain ⟨t, u, rfl, e1, e2⟩ := dats_two hd
      obtain ⟨b, ys, rfl, rfl⟩ := dat_lst e2
      subst e1
      obtain ⟨s1, f1⟩ := shaped_py c.1
      obtain ⟨s2, f2⟩ := eqOk_all c.2
      have o2 := dp_ok (K := K) (H := H) (.lst b ys) (S.ok _ (List.mem_cons_of_mem _ List.mem_cons_self)) (by unfold T.dat D.flat; exact f2)
      unfold T.dat D.py at o2
      refine .inl ⟨_, _, dp_ok t (S.ok _ List.mem_cons_self) f1, o2, s1, s2, ?_⟩
      rw [any_eqv c.1 c.2]
      exact hQ (.bl _) H (atomG G) (by simp [T.dat])
    · split at h <;> cases h
      rename_i c
      rw [Bool.and_eq_true] at c
      obtain ⟨t, u, rfl, e1, e2⟩ := dats_two hd
      obtain ⟨b, ys, rfl, rfl⟩ := dat_tup e2
      subst e1
      have o2 := S.ok _ (List.mem_cons_of_mem _ List.mem_cons_self)
      unfold T.ok at o2
      refine .inr ⟨b, vals ys, rfl, .inr (SqT.of o2.1), (atm_la c.1).2.2, flats c.2, ?_⟩
      rw [if_pos rfl, inV_eq c.1 c.2]
      exact hQ (.bl _) H (atomG G) (by simp [T.dat])
    · cases h
  | len =>
    simp only [opD] at h; split at h
    · cases h
      obtain ⟨t, rfl, e1⟩ := dats_one hd
      obtain ⟨a, xs, rfl, rfl⟩ := dat_lst e1
      have o1 := S.ok _ (List.mem_cons_self)
      unfold T.ok at o1
      refine ⟨a, vals xs, rfl, .inl (SqL.of o1.1), hQ (.int _) H (atomG G) ?_⟩
      simp [T.dat, dats_len]
    · cases h
      obtain ⟨t, rfl, e1⟩ := dats_one hd
      obtain ⟨a, xs, rfl, rfl⟩ := dat_tup e1
      have o1 := S.ok _ (List.mem_cons_self)
      unfold T.ok at o1
      refine ⟨a, vals xs, rfl, .inr (SqT.of o1.1), hQ (.int _) H (atomG G) ?_⟩
      simp [T.dat, dats_len]
    · cases h
      obtain ⟨t, rfl, e1⟩ := dats_one hd
      obtain ⟨a, xs, rfl, rfl⟩ := dat_fzl e1
      have o1 := S.ok _ (List.mem_cons_self)
      unfold T.ok at o1
      refine ⟨a, vals xs, rfl, .inl o1.1.seq, hQ (.int _) H (atomG G) ?_⟩
      simp [T.dat, dats_len]
    · cases h
  | srt =>
    simp only [opD] at h; split at h
    · simp only [Option.map_eq_some_iff] at h
      obtain ⟨ns, hn, rfl⟩ := h
      obtain ⟨t, rfl, e1⟩ := dats_one hd
      obtain ⟨a, xs, rfl, rfl⟩ := dat_lst e1
      have o1 := S.ok _ (List.mem_cons_self)
      unfold T.ok at o1
      have ex := dats_ints hn
      subst ex
      rw [vals_ints] at o1
      refine ⟨a, ns, rfl, SqL.of o1.1, fun ns' p hp hs hn => ?_⟩
      have e : ns' = isort ns := sorted_unique (hp.trans (isort_perm ns).symm) hs (isort_sorted ns)
      subst e
      rw [← vals_ints]
      exact hQ (.lst p _) _ (newL0 G hn (fun x hx => by
        obtain ⟨n, _, rfl⟩ := List.mem_map.mp hx
        simp [T.ok]) (las_ints _)) (by simp [T.dat, dats_mapint])
    · cases h
  | srtset => simp [opD] at h
  | listOf =>
    simp only [opD] at h; split at h
    · cases h
      obtain ⟨t, rfl, e1⟩ := dats_one hd
      obtain ⟨a, xs, rfl, rfl⟩ := dat_lst e1
      have o1 := S.ok _ (List.mem_cons_self)
      unfold T.ok at o1
      exact ⟨a, vals xs, rfl, .inl (SqL.of o1.1), fun p hp => hQ (.lst p xs) _ (S.newL G hp (fun x hx => ⟨_, List.mem_cons_self, hx⟩) fun a => by rw [flat1]; exact Nat.le_refl _) rfl⟩
    · cases h
      obtain ⟨t, rfl, e1⟩ := dats_one hd
      obtain ⟨a, xs, rfl, rfl⟩ := dat_tup e1
      have o1 := S.ok _ (List.mem_cons_self)
      unfold T.ok at o1
      exact ⟨a, vals xs, rfl, .inr (SqT.of o1.1), fun p hp => hQ (.lst p xs) _ (S.newL G hp (fun x hx => ⟨_, List.mem_cons_self, hx⟩) fun a => by rw [flat1]; exact Nat.le_refl _) rfl⟩
    · cases h
  | tupOf =>
    simp only [opD] at h; split at h
    · cases h
      obtain ⟨t, rfl, e1⟩ := dats_one hd
      obtain ⟨a, xs, rfl, rfl⟩ := dat_lst e1
      have o1 := S.ok _ (List.mem_cons_self)
      unfold T.ok at o1
      exact ⟨a, vals xs, rfl, .inl ⟨SqL.of o1.1, fun p hp => hQ (.tup p xs) _ (S.newT G hp (fun x hx => ⟨_, List.mem_cons_self, hx⟩) fun a => by rw [flat1]; exact Nat.le_refl _) rfl⟩⟩
    · cases h
      obtain ⟨t, rfl, e1⟩ := dats_one hd
      obtain ⟨a, xs, rfl, rfl⟩ := dat_tup e1
      have o1 := S.ok _ (List.mem_cons_self)
      have o2 := o1
      unfold T.ok at o1
      refine ⟨a, vals xs, rfl, .inr ⟨SqT.of o1.1, hQ (.tup a xs) H ?_ rfl⟩⟩
      exact S.sameT G
    · cases h
  | lr1 =>
    simp only [opD] at h; split at h
    · split at h <;> cases h
      rename_i c
      obtain ⟨t, rfl, e1⟩ := dats_one hd
      rw [dat_int e1]
      refine ⟨_, rfl, ?_, fun p hp => ?_⟩
      · unfold RgOk; simp [LIM] at c; omega
      · rw [rg_vals]
        exact hQ (.lst p ((rgI 0 _).map T.int)) _ (newL0 (k := .om) G hp (fun x hx => by
          obtain ⟨n, _, rfl⟩ := List.mem_map.mp hx
          simp [T.ok]) (las_ints _)) (by rw [T.dat, rgI_dats, Int.sub_zero])
    · cases h
  | lr2 =>
    simp only [opD] at h; split at h
    · split at h <;> cases h
      rename_i c
      obtain ⟨t, u, rfl, e1, e2⟩ := dats_two hd
      rw [dat_int e1, dat_int e2]
      refine ⟨_, _, rfl, rfl, ?_, fun p hp => ?_⟩
      · unfold RgOk; simp [LIM] at c; omega
      · rw [rg_vals]
        exact hQ (.lst p ((rgI _ _).map T.int)) _ (newL0 (k := .om) G hp (fun x hx => by
          obtain ⟨n, _, rfl⟩ := List.mem_map.mp hx
          simp [T.ok]) (las_ints _)) (by rw [T.dat, rgI_dats])
    · cases h
  | lr3 => simp [opD] at h
  | all =>
    simp only [opD] at h; split at h
    · simp only [Option.map_eq_some_iff] at h
      obtain ⟨ns, hn, rfl⟩ := h
      obtain ⟨t, rfl, e1⟩ := dats_one hd
      obtain ⟨a, xs, rfl, rfl⟩ := dat_lst e1
      have o1 := S.ok _ (List.mem_cons_self)
      unfold T.ok at o1
      have ex := dats_bls hn
      subst ex
      rw [vals_bls] at o1
      exact ⟨a, ns, rfl, SqL.of o1.1, hQ (.bl _) H (atomG G) (by simp [T.dat])⟩
    · cases h
  | any =>
    simp only [opD] at h; split at h
    · simp only [Option.map_eq_some_iff] at h
      obtain ⟨ns, hn, rfl⟩ := h
      obtain ⟨t, rfl, e1⟩ := dats_one hd
      obtain ⟨a, xs, rfl, rfl⟩ := dat_lst e1
      have o1 := S.ok _ (List.mem_cons_self)
      unfold T.ok at o1
      have ex := dats_bls hn
      subst ex
      rw [vals_bls] at o1
      exact ⟨a, ns, rfl, SqL.of o1.1, hQ (.bl _) H (atomG G) (by simp [T.dat])⟩
    · cases h
  | sum =>
    simp only [opD] at h; split at h
    · simp only [Option.map_eq_some_iff] at h
      obtain ⟨ns, hn, rfl⟩ := h
      obtain ⟨t, rfl, e1⟩ := dats_one hd
      obtain ⟨a, xs, rfl, rfl⟩ := dat_lst e1
      have o1 := S.ok _ (List.mem_cons_self)
      unfold T.ok at o1
      have ex := dats_ints hn
      subst ex
      rw [vals_ints] at o1
      exact ⟨a, ns, rfl, SqL.of o1.1, hQ (.int _) H (atomG G) (by simp [T.dat])⟩
    · cases h
  | sumL => simp [opD] at h
  | max2 =>
    simp only [opD] at h; split at h
    · cases h
      obtain ⟨t, u, rfl, e1, e2⟩ := dats_two hd
      rw [dat_int e1, dat_int e2]
      exact ⟨_, _, rfl, hQ (.int _) H (atomG G) (by simp [T.dat])⟩
    · cases h
  | min2 =>
    simp only [opD] at h; split at h
    · cases h
      obtain ⟨t, u, rfl, e1, e2⟩ := dats_two hd
      rw [dat_int e1, dat_int e2]
      exact ⟨_, _, rfl, hQ (.int _) H (atomG G) (by simp [T.dat])⟩
    · cases h
  | maxL =>
    simp only [opD] at h; split at h
    · simp only [Option.bind_eq_some_iff, Option.map_eq_some_iff] at h
      obtain ⟨ns, hn, m, hm, rfl⟩ := h
      obtain ⟨t, rfl, e1⟩ := dats_one hd
      obtain ⟨a, xs, rfl, rfl⟩ := dat_lst e1
      have o1 := S.ok _ (List.mem_cons_self)
      unfold T.ok at o1
      have ex := dats_ints hn
      subst ex
      rw [vals_ints] at o1
      refine ⟨a, ns, rfl, SqL.of o1.1, ?_, fun m' h1 h2 => ?_⟩
      · cases ns with
        | nil => simp at hm
        | cons n ns => simp
      · have e : m' = m := by
          obtain ⟨hm1, hm2⟩ := List.max?_eq_some_iff.mp hm
          exact Int.le_antisymm (hm2 m' h1) (h2 m hm1)
        subst e
        exact hQ (.int _) H (atomG G) (by simp [T.dat])
    · cases h
  | minL =>
    simp only [opD] at h; split at h
    · simp only [Option.bind_eq_some_iff, Option.map_eq_some_iff] at h
      obtain ⟨ns, hn, m, hm, rfl⟩ := h
      obtain ⟨t, rfl, e1⟩ := dats_one hd
      obtain ⟨a, xs, rfl, rfl⟩ := dat_lst e1
      have o1 := S.ok _ (List.mem_cons_self)
      unfold T.ok at o1
      have ex := dats_ints hn
      subst ex
      rw [vals_ints] at o1
      refine ⟨a, ns, rfl, SqL.of o1.1, ?_, fun m' h1 h2 => ?_⟩
      · cases ns with
        | nil => simp at hm
        | cons n ns => simp
      · have e : m' = m := by
          obtain ⟨hm1, hm2⟩ := List.min?_eq_some_iff.mp hm
          exact Int.le_antisymm (h2 m hm1) (hm2 m' h1)
        subst e
        exact hQ (.int _) H (atomG G) (by simp [T.dat])
    · cases h
  | toInt =>
    simp only [opD] at h; split at h
    · cases h
      obtain ⟨t, rfl, e1⟩ := dats_one hd
      rw [dat_int e1]
      exact .inl ⟨_, rfl, hQ (.int _) H (atomG G) (by simp [T.dat])⟩
    · cases h
      obtain ⟨t, rfl, e1⟩ := dats_one hd
      rw [dat_bl e1]
      exact .inr ⟨_, rfl, hQ (.int _) H (atomG G) (by simp [T.dat])⟩
    · cases h
  | toStr =>
    simp only [opD] at h; split at h
    · split at h <;> cases h
      rename_i c
      obtain ⟨t, rfl, e1⟩ := dats_one hd
      rw [dat_int e1]
      refine ⟨_, rfl, ?_, hQ (.str _) H (atomG G) (by simp [T.dat])⟩
      rename_i n
      by_cases z : n.natAbs = 0
      · rw [z]; decide
      · have : n.natAbs.log2 < 200 := (Nat.log2_lt z).mpr (Nat.lt_of_lt_of_le c (by decide))
        omega
    · cases h
  | repr =>
    simp only [opD] at h; split at h
    · split at h <;> cases h
      rename_i c
      simp only [Bool.and_eq_true, decide_eq_true_eq] at c
      obtain ⟨⟨⟨c1, c2⟩, c3⟩, c4⟩ := c
      obtain ⟨t, rfl, e1⟩ := dats_one hd
      subst e1
      exact ⟨_, rfl, _, dp_ok t (S.ok _ List.mem_cons_self) c1, c2, c3, c4, hQ (.str _) H (atomG G) (by simp [T.dat, D.shown])⟩
    · cases h
  | isi c =>
    simp only [opD] at h; split at h
    · split at h <;> cases h
      rename_i c
      rw [Bool.and_eq_true] at c
      obtain ⟨t, rfl, e1⟩ := dats_one hd
      subst e1
      exact ⟨_, _, _, _, _, rfl, .ty _, ty_ok (S.ok _ List.mem_cons_self) c.1, kit_ty (kit_D _ _ c.1 c.2), hQ (.bl _) H (atomG G) (by simp [T.dat])⟩
    · cases h
  | isi2 c1 c2 =>
    simp only [opD] at h; split at h
    · split at h <;> cases h
      rename_i c
      rw [Bool.and_eq_true, Bool.and_eq_true] at c
      obtain ⟨t, rfl, e1⟩ := dats_one hd
      subst e1
      refine ⟨by show 2 ≤ sizeLine; decide, fun p hp => ?_⟩
      refine ⟨_, p, _, _, _, _, rfl, upd_same, .cons (.ty _) (.cons (.ty _) .nil), ty_ok (ok_new hp (S.ok _ List.mem_cons_self)) c.1.1, ?_, hQ (.bl (isiD t.dat c1 || isiD t.dat c2)) _ (Good.plain (junk G.dropL hp) (by simp [T.ok]) (by simp [T.la])) (by simp [T.dat])⟩
      have k1 := kit_ty (K := K) (kit_D t.dat _ c.1.1 c.1.2)
      have k2 := kit_ty (K := K) (kit_D t.dat _ c.1.1 c.2)
      refine kitAny_cons k1 (fun e => ?_) (fun e => by rw [e]; rfl)
      rw [e, Bool.false_or]
      refine kitAny_cons k2 (fun e => by rw [e]; rfl) (fun e => e)
    · cases h
  | lst =>
    simp only [opD] at h; split at h <;> cases h
    rename_i c
    have ez := hz rfl
    subst ez
    subst hd
    rw [dats_len] at c
    refine ⟨by rw [lim_eq]; simpa using c, fun p hp => hQ (.lst p ts) _ (Good.newL (k := mnL ks) G hp S.ok (fun a m => own_zip S.len m) fun a => by rw [hLa_zip S.len]; exact Nat.le_refl _) rfl⟩
  | tup =>
    simp only [opD] at h; split at h <;> cases h
    rename_i c
    have ez := hz rfl
    subst ez
    subst hd
    rw [dats_len] at c
    refine ⟨by rw [lim_eq]; simpa using c, fun p hp => hQ (.tup p ts) _ (Good.newT (k := mnL ks) G hp S.ok (fun a m => own_zip S.len m) fun a => by rw [hLa_zip S.len]; exact Nat.le_refl _) rfl⟩
  | dct =>
    simp only [opD] at h; split at h
    · cases h
      rw [dats_nil hd]
      exact fun p hp => hQ (.dct p) _ (G.dropL.newD hp) rfl
    · cases h
  | ix =>
    simp only [opD] at h; split at h
    · obtain ⟨t, u, rfl, e1, e2⟩ := dats_two hd
      obtain ⟨a, xs, rfl, rfl⟩ := dat_lst e1
      rw [dat_int e2]
      have o1 := S.ok _ (List.mem_cons_self)
      unfold T.ok at o1
      simp only [Option.bind_eq_some_iff] at h
      obtain ⟨j, hj, h⟩ := h
      obtain ⟨x, hx, rfl, hv⟩ := dats_get h
      match ks, S, hQ with
      | k0 :: kr, S, hQ =>
        refine .inl ⟨a, vals xs, _, x.val, rfl, rfl, SqL.of o1.1, ?_, hQ x H (S.kid0 G (List.mem_of_getElem? hx)) rfl⟩
        unfold atI
        rw [dats_len] at hj
        rw [show (vals xs).length = xs.length from List.length_map _]
        show (OH.ixN xs.length _).bind _ = _
        rw [hj]; exact hv
      | [], S, hQ => exact absurd S.len (by simp)
    · obtain ⟨t, u, rfl, e1, e2⟩ := dats_two hd
      obtain ⟨a, xs, rfl, rfl⟩ := dat_tup e1
      rw [dat_int e2]
      have o1 := S.ok _ (List.mem_cons_self)
      unfold T.ok at o1
      simp only [Option.bind_eq_some_iff] at h
      obtain ⟨j, hj, h⟩ := h
      obtain ⟨x, hx, rfl, hv⟩ := dats_get h
      match ks, S, hQ with
      | k0 :: kr, S, hQ =>
        refine .inr (.inl ⟨a, vals xs, _, x.val, rfl, rfl, SqT.of o1.1, ?_, hQ x H (S.kid0 G (List.mem_of_getElem? hx)) rfl⟩)
        unfold atI
        rw [dats_len] at hj
        rw [show (vals xs).length = xs.length from List.length_map _]
        show (OH.ixN xs.length _).bind _ = _
        rw [hj]; exact hv
      | [], S, hQ => exact absurd S.len (by simp)
    · obtain ⟨t, u, rfl, e1, e2⟩ := dats_two hd
      obtain ⟨a, xs, rfl, rfl⟩ := dat_fzl e1
      rw [dat_int e2]
      have o1 := S.ok _ (List.mem_cons_self)
      unfold T.ok at o1
      simp only [Option.bind_eq_some_iff] at h
      obtain ⟨j, hj, h⟩ := h
      obtain ⟨x, hx, rfl, hv⟩ := dats_get h
      match ks, S, hQ with
      | k0 :: kr, S, hQ =>
        refine .inl ⟨a, vals xs, _, x.val, rfl, rfl, o1.1.seq, ?_, hQ x H (S.kid0 G (List.mem_of_getElem? hx)) rfl⟩
        unfold atI
        rw [dats_len] at hj
        rw [show (vals xs).length = xs.length from List.length_map _]
        show (OH.ixN xs.length _).bind _ = _
        rw [hj]; exact hv
      | [], S, hQ => exact absurd S.len (by simp)
    · cases h
  | sl lo hi =>
    cases lo <;> cases hi
    · simp only [opD] at h; split at h
      · cases h
        obtain ⟨t, rfl, e1⟩ := dats_one hd
        obtain ⟨a, xs, rfl, rfl⟩ := dat_lst e1
        have o1 := S.ok _ (List.mem_cons_self)
        unfold T.ok at o1
        refine ⟨a, vals xs, rfl, SqL.of o1.1, fun p hp => ?_⟩
        have e : slice xs none none = xs := slice_all xs none none rfl rfl
        rw [cut_eq, e]
        exact hQ (.lst p xs) _ (S.newL G hp (fun x hx => ⟨_, List.mem_cons_self, hx⟩) fun a => by rw [flat1]; exact Nat.le_refl _) rfl
      · cases h
    · simp only [opD] at h; split at h
      · cases h
        obtain ⟨t, u, rfl, e1, e2⟩ := dats_two hd
        obtain ⟨a, xs, rfl, rfl⟩ := dat_lst e1
        rw [dat_int e2]
        exact ⟨_, rfl, .inl (sl_lst S G hQ)⟩
      · cases h
        obtain ⟨t, u, rfl, e1, e2⟩ := dats_two hd
        obtain ⟨a, xs, rfl, rfl⟩ := dat_tup e1
        rw [dat_int e2]
        exact ⟨_, rfl, .inr (sl_tup S G hQ)⟩
      · cases h
        obtain ⟨t, u, rfl, e1, e2⟩ := dats_two hd
        obtain ⟨a, xs, rfl, rfl⟩ := dat_fzl e1
        rw [dat_int e2]
        exact ⟨_, rfl, .inl (sl_fz S G hQ)⟩
      · cases h
    · simp only [opD] at h; split at h
      · cases h
        obtain ⟨t, u, rfl, e1, e2⟩ := dats_two hd
        obtain ⟨a, xs, rfl, rfl⟩ := dat_lst e1
        rw [dat_int e2]
        exact ⟨_, rfl, .inl (sl_lst S G hQ)⟩
      · cases h
        obtain ⟨t, u, rfl, e1, e2⟩ := dats_two hd
        obtain ⟨a, xs, rfl, rfl⟩ := dat_tup e1
        rw [dat_int e2]
        exact ⟨_, rfl, .inr (sl_tup S G hQ)⟩
      · cases h
    · simp only [opD] at h; split at h
      · cases h
        obtain ⟨t, u, w, rfl, e1, e2, e3⟩ := dats_three hd
        obtain ⟨a, xs, rfl, rfl⟩ := dat_lst e1
        rw [dat_int e2, dat_int e3]
        exact ⟨_, _, rfl, rfl, .inl (sl_lst S G hQ)⟩
      · cases h
  | rev =>
    simp only [opD] at h; split at h
    · cases h
      obtain ⟨t, rfl, e1⟩ := dats_one hd
      obtain ⟨a, xs, rfl, rfl⟩ := dat_lst e1
      have o1 := S.ok _ (List.mem_cons_self)
      unfold T.ok at o1
      refine ⟨a, vals xs, rfl, SqL.of o1.1, fun p hp => ?_⟩
      rw [show (vals xs).reverse = vals xs.reverse from (List.map_reverse).symm]
      refine hQ (.lst p _) _ (S.newL G hp (fun x hx => ⟨_, List.mem_cons_self, List.mem_reverse.mp hx⟩) fun a => ?_) (by simp [T.dat, dats_map])
      rw [flat1]
      exact Nat.le_of_eq (perm_las (List.reverse_perm xs) a)
    · cases h
  | bitlen =>
    simp only [opD] at h; split at h
    · cases h
      obtain ⟨t, rfl, e1⟩ := dats_one hd
      rw [dat_int e1]
      exact ⟨_, rfl, hQ (.int _) H (atomG G) (by simp [T.dat])⟩
    · cases h
  | index =>
    simp only [opD] at h; split at h
    · split at h
      · rename_i c
        rw [Bool.and_eq_true] at c
        simp only [Option.map_eq_some_iff] at h
        obtain ⟨j, hj, rfl⟩ := h
        obtain ⟨t, u, rfl, e1, e2⟩ := dats_two hd
        obtain ⟨a, xs, rfl, rfl⟩ := dat_lst e1
        subst e2
        obtain ⟨s1, f1⟩ := shaped_py c.1
        obtain ⟨s2, f2⟩ := eqOk_all c.2
        have o1 := dp_ok (K := K) (H := H) (.lst a xs) (S.ok _ List.mem_cons_self) (by unfold T.dat D.flat; exact f2)
        have o2 := dp_ok (K := K) (H := H) u (S.ok _ (List.mem_cons_of_mem _ List.mem_cons_self)) f1
        unfold T.dat D.py at o1
        obtain ⟨hl, h1, h2⟩ := List.findIdx?_eq_some_iff_getElem.mp hj
        have eqs : ∀ (m : Nat) (hm : m < (T.dats xs).length), (D.pyL (T.dats xs))[m]? = some ((T.dats xs)[m]).py ∧ PyData.eqv ((T.dats xs)[m]).py (u.dat).py = D.eqv (T.dats xs)[m] u.dat := fun m hm => by
          refine ⟨by rw [pyL_map, List.getElem?_map, List.getElem?_eq_getElem hm]; rfl, eqv_py _ _ (shaped_py (List.all_eq_true.mp c.2 _ (List.getElem_mem hm))).2 f1⟩
        refine ⟨a, _, _, _, j, _, rfl, rfl, o1, o2, s2, s1, (eqs j hl).1, ?_, fun m z' hm hz' => ?_, hQ (.int _) H (atomG G) (by simp [T.dat])⟩
        · rw [(eqs j hl).2]; exact h1
        · have hml : m < (T.dats xs).length := by omega
          have ez := (eqs m hml).1
          rw [hz'] at ez
          cases ez
          rw [(eqs m hml).2]
          simpa using h2 m hm
      · cases h
    · cases h
  | count =>
    simp only [opD] at h; split at h
    · simp only [Option.map_eq_some_iff] at h
      obtain ⟨ns, hn, rfl⟩ := h
      obtain ⟨t, u, rfl, e1, e2⟩ := dats_two hd
      obtain ⟨a, xs, rfl, rfl⟩ := dat_lst e1
      have o1 := S.ok _ (List.mem_cons_self)
      unfold T.ok at o1
      have ex := dats_ints hn
      subst ex
      rw [vals_ints] at o1
      rw [dat_int e2]
      exact ⟨a, ns, _, rfl, rfl, SqL.of o1.1, hQ (.int _) H (atomG G) (by simp [T.dat])⟩
    · cases h
end
end OH

namespace OH
open PySem PySem.Spec PyProof.Rows L2
structure Rel (n : Nat) (ρ : REnv) (g : Gam) (τ : Tau) (σ : L2.St) : Prop where
  lρ : ρ.length = n
  lτ : τ.length = n
  lσ : σ.length = n
  at_ : ∀ i k, i < n → gD g i = some k → ∃ t, oD τ i = some t ∧ getD ρ i = some t.dat ∧ σ[i]? = some (some t.val)
section
variable {n : Nat} {ρ : REnv} {g g' g1 g2 : Gam} {τ τ' : Tau} {σ : L2.St}
theorem Rel.dom (r : Rel n ρ g τ σ) (h : ∀ i k, gD g' i = some k → ∃ k', gD g i = some k') : Rel n ρ g' τ σ :=
  ⟨r.lρ, r.lτ, r.lσ, fun i k hi e => by
    obtain ⟨k', e'⟩ := h i k e
    exact r.at_ i k' hi e'⟩
theorem Rel.le (r : Rel n ρ g τ σ) (h : GLe g' g) : Rel n ρ g' τ σ := r.dom fun i k e => by
  obtain ⟨k', e', _⟩ := h.some e
  exact ⟨k', e'⟩
theorem Rel.put (r : Rel n ρ g τ σ) {i : Nat} {t : T} {k : Dp} : Rel n (ρ.set i (some t.dat)) (g.set i (some k)) (τ.set i (some t)) (σ.set i (some t.val)) := by
  refine ⟨by rw [List.length_set]; exact r.lρ, by rw [List.length_set]; exact r.lτ, by rw [List.length_set]; exact r.lσ, fun j k' hj e => ?_⟩
  by_cases h : i = j
  · subst h
    refine ⟨t, oD_set_eq (by rw [r.lτ]; exact hj), oD_set_eq (by rw [r.lρ]; exact hj), ?_⟩
    rw [List.getElem?_set_self (by rw [r.lσ]; exact hj)]
  · rw [show gD (g.set i (some k)) j = gD g j from oD_set_ne h] at e
    obtain ⟨t', h1, h2, h3⟩ := r.at_ j k' hj e
    exact ⟨t', by rw [oD_set_ne h]; exact h1, by rw [show getD (ρ.set i (some t.dat)) j = getD ρ j from oD_set_ne h]; exact h2, by rw [List.getElem?_set_ne h]; exact h3⟩
/-- another tree with the same root -/
theorem Rel.mut (r : Rel n ρ g τ σ) {i : Nat} {t u : T} {k : Dp} (h : oD τ i = some t) (hv : σ[i]? = some (some t.val)) (e : u.val = t.val) : Rel n (ρ.set i (some u.dat)) (g.set i (some k)) (τ.set i (some u)) σ := by
  have q := Rel.put r (i := i) (t := u) (k := k)
  have s : σ.set i (some u.val) = σ := by
    rw [e]
    refine List.ext_getElem? fun j => ?_
    by_cases c : i = j
    · subst c
      have hi := oD_lt h
      rw [List.getElem?_set_self (by rw [r.lσ, ← r.lτ]; exact hi), hv]
    · rw [List.getElem?_set_ne c]
  rw [s] at q
  exact q
theorem Rel.tau (r : Rel n ρ g τ σ) (l : τ'.length = τ.length) (h : ∀ i k, gD g i = some k → oD τ' i = oD τ i) : Rel n ρ g τ' σ :=
  ⟨r.lρ, l.trans r.lτ, r.lσ, fun i k hi e => by
    obtain ⟨t, h1, h2⟩ := r.at_ i k hi e
    exact ⟨t, (h i k e).trans h1, h2⟩⟩
theorem slots_tau (l : τ'.length = τ.length) (h : ∀ i k, gD g i = some k → oD τ' i = oD τ i) : slots g τ' = slots g τ := by
  unfold slots
  rw [l]
  refine slotsOn_congr fun i _ => ?_
  unfold ent
  cases e : gD g i with
  | none => rfl
  | some k => rw [h i k e]
end
section
variable {K : PySem.W.Frag} {H0 H H' : Hp} {IO SR : List Addr} {R N : Hold} {g g' g1 g2 : Gam} {τ τ' : Tau} {t : T} {k : Dp}
theorem Good.weakS (G : Good K H0 IO SR H (slots g τ ++ R)) (h : GLe g' g) : Good K H0 IO SR H (slots g' τ ++ R) := by
  refine Good.same (old := slots g τ) (new := slots g' τ) G (fun p hp => ?_) (fun a m => ?_) fun a => ?_
  · obtain ⟨i, hi, h1, h2⟩ := mem_slots.mp hp
    obtain ⟨k', e, _⟩ := h.some h1
    exact G.ok (p.1, k') (List.mem_append_left _ (mem_slots.mpr ⟨i, hi, e, h2⟩))
  · obtain ⟨p, hp, m⟩ := hOwn_mem.mp m
    obtain ⟨i, hi, h1, h2⟩ := mem_slots.mp hp
    obtain ⟨k', e, l⟩ := h.some h1
    exact hOwn_mem.mpr ⟨(p.1, k'), mem_slots.mpr ⟨i, hi, e, h2⟩, own_mono l _ _ m⟩
  · unfold slots
    rw [cnt_slots, cnt_slots]
    refine sum_le fun i _ => ?_
    cases e : gD g' i with
    | none => rw [ent_none e]; exact Nat.zero_le _
    | some k =>
      obtain ⟨k', e', _⟩ := h.some e
      cases et : oD τ i with
      | none => unfold ent; rw [et, e]; exact Nat.zero_le _
      | some t => rw [ent_some e et, ent_some e' et]; exact Nat.le_refl _
theorem Good.swap (G : Good K H0 IO SR H (N ++ R)) : Good K H0 IO SR H (R ++ N) := G.perm List.perm_append_comm
/-- what stands in front goes behind the slots -/
theorem Good.inR {S : Hold} (G : Good K H0 IO SR H (N ++ (S ++ R))) : Good K H0 IO SR H (S ++ (N ++ R)) := G.perm (by
  rw [← List.append_assoc, ← List.append_assoc]
  exact List.perm_append_comm.append_right R)
theorem Good.inR1 {S : Hold} {p : T × Dp} (G : Good K H0 IO SR H (p :: (S ++ R))) : Good K H0 IO SR H (S ++ (p :: R)) := Good.inR (N := [p]) G
theorem Good.outR {S : Hold} (G : Good K H0 IO SR H (S ++ (N ++ R))) : Good K H0 IO SR H (N ++ (S ++ R)) := Good.inR G
def kidH (t : T) (k : Dp) : Hold := t.kids.map fun x => (x, k)
theorem hLa_kidH (t : T) (k : Dp) : hLa (kidH t k) = T.las t.kids := by
  unfold kidH hLa
  rw [List.flatMap_map, las_flat]
theorem hOwn_kidH (t : T) (k : Dp) : hOwn (kidH t k) = T.owns t.kids k := by
  unfold kidH hOwn
  rw [List.flatMap_map, owns_flat]
theorem kids_las (t : T) (a : Addr) : (T.las t.kids).count a ≤ (T.la t).count a := by
  cases t <;> simp [T.kids, T.la, T.las]
  rw [List.count_cons]; omega
theorem kids_own (t : T) (k : Dp) {a : Addr} (m : a ∈ T.owns t.kids k.pred) : a ∈ T.own t k := by
  by_cases p : k.pos = true
  · cases t <;> simp only [T.kids, T.owns, List.not_mem_nil] at m <;> (unfold T.own; rw [if_pos p])
    · exact List.mem_cons_of_mem _ m
    · exact m
    · exact m
  · have : k = .fin 0 := Dp.not_pos (by simpa using p)
    subst this
    rw [Dp.pred_zero, owns_zero] at m
    cases m
/-- its items are looked at, it stays where it is -/
theorem Good.vin (G : Good K H0 IO SR H ((t, k) :: R)) : Good K H0 IO SR H (kidH t (.fin 0) ++ ((t, k.mn (.fin 1)) :: R)) := by
  have g0 := G.weak (Dp.mn_le_l k (.fin 1))
  refine ⟨fun p hp => ?_, fun a m => ?_, fun a m => ?_, G.io, G.fr, fun a m => ?_⟩
  · rcases List.mem_append.mp hp with hp | hp
    · obtain ⟨x, hx, rfl⟩ := List.mem_map.mp hp
      exact kids_ok (G.ok (t, k) List.mem_cons_self) hx
    · exact g0.ok p hp
  · rw [hOwn_app, hOwn_kidH, owns_zero, List.nil_append] at m
    have c := g0.sep a m
    rw [hLa_app, List.count_append, hLa_kidH, c]
    have z : (T.las t.kids).count a = 0 := by
      refine List.count_eq_zero_of_not_mem fun mk => ?_
      have c1 := List.count_pos_iff.mpr mk
      rw [hLa_cons, List.count_append] at c
      have c' : (T.la t).count a + (hLa R).count a = 1 := c
      have l := kids_las t a
      have m' : a ∈ T.own t (k.mn (.fin 1)) ++ hOwn R := m
      rcases List.mem_append.mp m' with m' | m'
      · cases t with
        | lst b ts =>
          unfold T.own at m'
          split at m'
          · rcases List.mem_cons.mp m' with e | m'
            · subst e
              unfold T.la at c'
              rw [List.count_cons_self] at c'
              have mk' : a ∈ T.las ts := mk
              have := List.count_pos_iff.mpr mk'
              omega
            · have e : (k.mn (.fin 1)).pred = .fin 0 := by
                cases k with
                | om => rfl
                | fin n => cases n with
                  | zero => rfl
                  | succ n => simp [Dp.mn, Dp.pred]
              rw [e, owns_zero] at m'; cases m'
          · cases m'
        | tup b ts =>
          unfold T.own at m'
          split at m'
          · have e : (k.mn (.fin 1)).pred = .fin 0 := by
              cases k with
              | om => rfl
              | fin n => cases n with
                | zero => rfl
                | succ n => simp [Dp.mn, Dp.pred]
            rw [e, owns_zero] at m'; cases m'
          · cases m'
        | fz b ts =>
          unfold T.own at m'
          split at m'
          · have e : (k.mn (.fin 1)).pred = .fin 0 := by
              cases k with
              | om => rfl
              | fin n => cases n with
                | zero => rfl
                | succ n => simp [Dp.mn, Dp.pred]
            rw [e, owns_zero] at m'; cases m'
          · cases m'
        | _ => simp [T.kids, T.las] at mk
      · have c2 := List.count_pos_iff.mpr (hOwn_la m')
        omega
    omega
  · rw [hOwn_app, hOwn_kidH, owns_zero, List.nil_append] at m
    exact g0.wr a m
  · rw [hLa_app, hLa_kidH] at m
    rcases List.mem_append.mp m with m | m
    · have c1 := List.count_pos_iff.mpr m
      have l := kids_las t a
      exact G.src a (by rw [hLa_cons]; exact List.mem_append_left _ (List.count_pos_iff.mp (Nat.lt_of_lt_of_le c1 l)))
    · exact g0.src a m
/-- a thing without its items -/
def T.root : T → T
  | .lst a ts => .raw a (vals ts)
  | .tup a ts => .rw a true (vals ts)
  | .fz a ts => .rw a false (vals ts)
  | t => t
theorem root_ok (h : T.ok K H t) : T.ok K H t.root := by
  cases t <;> first | exact h | skip
  · unfold T.ok at h; unfold T.root T.ok; exact h.1
  · unfold T.ok at h; unfold T.root T.ok; rw [if_pos rfl]; exact h.1
  · unfold T.ok at h; unfold T.root T.ok; rw [if_neg (by decide)]; exact h.1
theorem root_kids_la (t : T) (a : Addr) : (T.la t.root).count a + (T.las t.kids).count a = (T.la t).count a := by
  cases t <;> simp [T.root, T.kids, T.la, T.las, List.count_cons]
  omega
theorem Good.split (G : Good K H0 IO SR H ((t, k) :: R)) : Good K H0 IO SR H ((t.root, .fin 0) :: (kidH t k.pred ++ R)) := by
  refine Good.same (old := [(t, k)]) (new := (t.root, .fin 0) :: kidH t k.pred) G (fun p hp => ?_) (fun a m => ?_) fun a => ?_
  · rcases List.mem_cons.mp hp with e | hp
    · rw [e]; exact root_ok (G.ok (t, k) List.mem_cons_self)
    · obtain ⟨x, hx, rfl⟩ := List.mem_map.mp hp
      exact kids_ok (G.ok (t, k) List.mem_cons_self) hx
  · rw [hOwn_cons, hOwn_kidH] at m
    have m' : a ∈ T.own t.root (.fin 0) ++ T.owns t.kids k.pred := m
    rw [own_zero, List.nil_append] at m'
    exact hOwn_mem.mpr ⟨(t, k), List.mem_singleton.mpr rfl, kids_own t k m'⟩
  · rw [hLa_cons, hLa_kidH, List.count_append]
    show (T.la t.root).count a + _ ≤ (hLa [(t, k)]).count a
    rw [root_kids_la, hLa_cons]
    show _ ≤ (T.la t ++ []).count a
    rw [List.append_nil]; exact Nat.le_refl _

theorem root_own (t : T) {k : Dp} {a : Addr} (m : a ∈ T.own t.root (k.mn (.fin 1))) : a ∈ T.own t k := by
  have p1 : ∀ k : Dp, (k.mn (.fin 1)).pos = k.pos := fun k => by cases k with
    | om => rfl
    | fin n => cases n <;> simp [Dp.mn, Dp.pos]
  cases t <;> simp only [T.root, T.own, List.not_mem_nil] at m
  case raw b vs =>
    rw [p1] at m
    unfold T.own; exact m
  rename_i b ts
  rw [p1] at m
  unfold T.own
  split at m
  · rename_i h
    rw [if_pos h]
    rw [List.mem_singleton.mp m]; exact List.mem_cons_self
  · cases m
/-- the items leave it -/
theorem Good.split1 (G : Good K H0 IO SR H ((t, k) :: R)) : Good K H0 IO SR H ((t.root, k.mn (.fin 1)) :: (kidH t k.pred ++ R)) := by
  refine Good.same (old := [(t, k)]) (new := (t.root, k.mn (.fin 1)) :: kidH t k.pred) G (fun p hp => ?_) (fun a m => ?_) fun a => ?_
  · rcases List.mem_cons.mp hp with e | hp
    · rw [e]; exact root_ok (G.ok (t, k) List.mem_cons_self)
    · obtain ⟨x, hx, rfl⟩ := List.mem_map.mp hp
      exact kids_ok (G.ok (t, k) List.mem_cons_self) hx
  · rw [hOwn_cons, hOwn_kidH] at m
    have m' : a ∈ T.own t.root (k.mn (.fin 1)) ++ T.owns t.kids k.pred := m
    rcases List.mem_append.mp m' with m' | m'
    · exact hOwn_mem.mpr ⟨(t, k), List.mem_singleton.mpr rfl, root_own t m'⟩
    · exact hOwn_mem.mpr ⟨(t, k), List.mem_singleton.mpr rfl, kids_own t k m'⟩
  · rw [hLa_cons, hLa_kidH, List.count_append]
    show (T.la t.root).count a + _ ≤ (hLa [(t, k)]).count a
    rw [root_kids_la, hLa_cons]
    show _ ≤ (T.la t ++ []).count a
    rw [List.append_nil]; exact Nat.le_refl _
mutual
/-- of so many levels: all of it -/
theorem own_tall : ∀ (t : T) (n : Nat), D.flat t.dat = true → D.height t.dat ≤ n → T.own t (.fin n) = T.own t .om
  | .lst a ts, n, hf, h => by
    simp only [T.dat, D.flat, D.height] at hf h
    cases n with
    | zero => omega
    | succ n =>
      have := owns_tall ts n hf (by omega)
      simp only [T.own, Dp.pos, Dp.pred, if_true, this]
  | .tup a ts, n, hf, h => by
    simp only [T.dat, D.flat, D.height] at hf h
    cases n with
    | zero => omega
    | succ n =>
      have := owns_tall ts n hf (by omega)
      simp only [T.own, Dp.pos, Dp.pred, if_true, this]
  | .fz a ts, n, hf, h => by simp [T.dat, D.flat] at hf
  | .raw a vs, n, hf, h => by simp [T.dat, D.flat] at hf
  | .dct _, n, hf, h | .rw _ _ _, n, hf, h | .non, n, hf, h | .bl _, n, hf, h | .int _, n, hf, h | .str _, n, hf, h => by simp [T.own]
theorem owns_tall : ∀ (ts : List T) (n : Nat), D.flatL (T.dats ts) = true → D.heightL (T.dats ts) ≤ n → T.owns ts (.fin n) = T.owns ts .om
  | [], n, _, _ => rfl
  | t :: ts, n, hf, h => by
    simp only [T.dats, D.flatL, D.heightL, Bool.and_eq_true] at hf h
    simp only [T.owns, own_tall t n hf.1 (by omega), owns_tall ts n hf.2 (by omega)]
end
theorem Good.tall {m : Nat} (G : Good K H0 IO SR H ((t, k) :: R)) (hk : (Dp.fin m).le k = true) (hf : D.flat t.dat = true) (h : D.height t.dat ≤ m) : Good K H0 IO SR H ((t, .om) :: R) := by
  refine Good.same (old := [(t, k)]) (new := [(t, .om)]) G (fun p hp => ?_) (fun a mm => ?_) fun a => ?_
  · rw [List.mem_singleton.mp hp]; exact G.ok (t, k) List.mem_cons_self
  · obtain ⟨p, hp, mm⟩ := hOwn_mem.mp mm
    rw [List.mem_singleton.mp hp] at mm
    have mm' : a ∈ T.own t .om := mm
    rw [← own_tall t m hf h] at mm'
    exact hOwn_mem.mpr ⟨(t, k), List.mem_singleton.mpr rfl, own_mono hk _ _ mm'⟩
  · exact Nat.le_refl _

/-! ### operands that are held -/
def opHold : List E → List T → List Dp → Hold
  | .vin _ :: es, t :: ts, _ :: ks => kidH t (.fin 0) ++ opHold es ts ks
  | _ :: es, t :: ts, k :: ks => (t, k) :: opHold es ts ks
  | _, _, _ => []
/-- the names looked at stand in their slots -/
def VinOk (es : List E) (ts : List T) (g : Gam) (τ : Tau) : Prop := ∀ (j i : Nat), es[j]? = some (E.vin i) → ts[j]? = oD τ i ∧ (gD g i).isSome = true
theorem opHold_vin {i : Nat} {es : List E} {t : T} {ts : List T} {k : Dp} {ks : List Dp} : opHold (.vin i :: es) (t :: ts) (k :: ks) = kidH t (.fin 0) ++ opHold es ts ks := rfl
def isVin : E → Bool | .vin _ => true | _ => false
theorem opHold_not {e : E} {es : List E} {t : T} {ts : List T} {k : Dp} {ks : List Dp} (h : isVin e = false) : opHold (e :: es) (t :: ts) (k :: ks) = (t, k) :: opHold es ts ks := by
  cases e <;> first | rfl | (simp [isVin] at h)
theorem opHold_zip : ∀ {es : List E} {ts : List T} {ks : List Dp}, hasVin es = false → es.length = ts.length → opHold es ts ks = ts.zip ks
  | [], [], ks, _, _ => by simp [opHold]
  | e :: es, t :: ts, ks, h, l => by
    have hv : isVin e = false ∧ hasVin es = false := by
      cases e <;> first | (simp [hasVin] at h; done) | exact ⟨rfl, h⟩
    cases ks with
    | nil =>
      cases e <;> rfl
    | cons k ks =>
      rw [opHold_not hv.1, List.zip_cons_cons, opHold_zip hv.2 (by simpa using l)]
theorem src_of : ∀ {es : List E} {ts : List T} {ks : List Dp}, es.length = ts.length → ks.length = ts.length → (∀ p ∈ opHold es ts ks, T.ok K H p.1) → (∀ (j i : Nat) (t : T), es[j]? = some (E.vin i) → ts[j]? = some t → T.ok K H t) → (∀ (j i : Nat) (k : OH.Dp), es[j]? = some (E.vin i) → ks[j]? = some k → k = OH.Dp.fin 0) → Src K H (opHold es ts ks) ts ks
  | [], [], [], _, _, _, _, _ => ⟨rfl, fun t h => absurd h List.not_mem_nil, fun j t k h => by simp at h, fun a => Nat.zero_le _⟩
  | e :: es, t :: ts, k :: ks, l1, l2, ok, vok, vk => by
    have ih := src_of (es := es) (ts := ts) (ks := ks) (by simpa using l1) (by simpa using l2) (fun p hp => ok p (by
      by_cases hv : isVin e = true
      · cases e <;> first | (simp [isVin] at hv; done) | skip
        rw [opHold_vin]; exact List.mem_append_right _ hp
      · rw [opHold_not (by simpa using hv)]; exact List.mem_cons_of_mem _ hp)) (fun j i t h1 h2 => vok (j + 1) i t h1 h2) (fun j i t h1 h2 => vk (j + 1) i t h1 h2)
    by_cases hv : isVin e = true
    · cases e <;> first | (simp [isVin] at hv; done) | skip
      rename_i i
      rw [opHold_vin]
      have ek := vk 0 i k rfl rfl
      refine ⟨by simpa using l2, fun u hu => ?_, fun j u k' h1 h2 a m => ?_, fun a => ?_⟩
      · rcases List.mem_cons.mp hu with e | hu
        · rw [e]; exact vok 0 i t rfl rfl
        · exact ih.ok u hu
      · rw [hOwn_app]
        cases j with
        | zero =>
          simp only [List.getElem?_cons_zero, Option.some.injEq] at h1 h2
          subst h1; subst h2
          rw [ek, Dp.pred_zero, owns_zero] at m; cases m
        | succ j => exact List.mem_append_right _ (ih.own j u k' (by simpa using h1) (by simpa using h2) a m)
      · rw [List.flatMap_cons, List.count_append, hLa_app, List.count_append, hLa_kidH]
        have := ih.cnt a
        omega
    · have hv' : isVin e = false := by simpa using hv
      rw [opHold_not hv'] at ok ⊢
      refine ⟨by simpa using l2, fun u hu => ?_, fun j u k' h1 h2 a m => ?_, fun a => ?_⟩
      · rcases List.mem_cons.mp hu with e | hu
        · rw [e]; exact ok (t, k) List.mem_cons_self
        · exact ih.ok u hu
      · rw [hOwn_cons]
        cases j with
        | zero =>
          simp only [List.getElem?_cons_zero, Option.some.injEq] at h1 h2
          subst h1; subst h2
          exact List.mem_append_left _ (kids_own t k m)
        | succ j => exact List.mem_append_right _ (ih.own j u k' (by simpa using h1) (by simpa using h2) a m)
      · rw [List.flatMap_cons, List.count_append, hLa_cons, List.count_append]
        have := ih.cnt a
        have := kids_las t a
        have e : (T.la (t, k).1).count a = (T.la t).count a := rfl
        omega
  | [], t :: ts, _, l, _, _, _, _ => by simp at l
  | _ :: _, [], _, l, _, _, _, _ => by simp at l
  | [], [], _ :: _, _, l, _, _, _ => by simp at l
  | _ :: _, _ :: _, [], _, l, _, _, _ => by simp at l
end
end OH

namespace OH
open PySem PySem.Spec PyProof.Rows L2
/-! ### calls -/
def ioOwn (io : List (Option Dp)) (ts : List T) : List Addr := (io.zip ts).flatMap fun p => match p.1 with
  | some k => T.own p.2 k
  | none => []
def ioHold (io : List (Option Dp)) (ts : List T) : Hold := (io.zip ts).flatMap fun p => match p.1 with
  | some k => [(p.2, k)]
  | none => []
structure SpPre (K : PySem.W.Frag) (sig : Sig) (ts : List T) (H : Hp) : Prop where
  len : sig.io.length = ts.length
  ok : ∀ t ∈ ts, T.ok K H t
  sep : ∀ a ∈ ioOwn sig.io ts, (T.las ts).count a = 1
structure SpOut (K : PySem.W.Frag) (sig : Sig) (ts : List T) (H : Hp) (t' : T) (ts' : List T) (H' : Hp) : Prop where
  len : ts'.length = ts.length
  val : ∀ (j : Nat) (k : OH.Dp) (t u : T), sig.out[j]? = some (some k) → ts[j]? = some t → ts'[j]? = some u → u.val = t.val
  good : Good K H (ioOwn sig.io ts) (T.las ts) H' ((t', sig.res) :: ioHold sig.out ts')
/-- the data behind a call are those of the trees, where they may have changed -/
def DsOk (sig : Sig) (ts' : List T) (ds' : List D) : Prop := ds'.length = ts'.length ∧ ∀ (j : Nat) (k : OH.Dp) (u : T), sig.out[j]? = some (some k) → ts'[j]? = some u → ds'[j]? = some u.dat
def CallOk (cl : Calls) (sg : Nat → Sig) (c : TC) : Prop := ∀ f ds d ds', cl f ds = some (d, ds') → ∀ ts H Q E, T.dats ts = ds → SpPre c.K (sg f) ts H →
  (∀ t' ts' H', SpOut c.K (sg f) ts H t' ts' H' → t'.dat = d → DsOk (sg f) ts' ds' → Q t'.val H') → c.sp f (vals ts) H Q E
section
variable {K : PySem.W.Frag} {H0 H H' : Hp} {IO SR : List Addr} {R old : Hold} {g g' g1 g2 : Gam} {τ τ' : Tau} {t t' : T} {k : Dp} {sig : Sig} {ts ts' : List T}
theorem call_step (G : Good K H0 IO SR H (old ++ R)) (O : SpOut K sig ts H t' ts' H') (h1 : ∀ a ∈ T.las ts, a ∈ hLa old) (h2 : ∀ a ∈ ioOwn sig.io ts, a ∈ hOwn old) : Good K H0 IO SR H' (((t', sig.res) :: ioHold sig.out ts') ++ R) := by
  have C := O.good
  have lst : ∀ a ∈ ioOwn sig.io ts, ∃ xs, H a = some (.lst xs) := fun a m => (C.io a m).1
  have keep : ∀ a o, H a = some o → (∀ xs, o ≠ .lst xs) → H' a = some o := fun a o e n => by
    by_cases m : a ∈ ioOwn sig.io ts
    · obtain ⟨xs, q⟩ := lst a m
      rw [e] at q; cases q
      exact absurd rfl (n xs)
    · rw [C.fr a (by rw [e]; simp) m]; exact e
  refine G.exch2 (fun p hp => C.ok p hp) (fun p hp => ?_) (fun a m => ⟨?_, C.sep a m⟩) (fun a h m => ?_) (fun a m => ?_) (fun a h m => ?_)
  · refine ok_keep keep p.1 (fun a m => ?_) (G.ok p (List.mem_append_right _ hp))
    obtain ⟨xs, e⟩ := ok_la p.1 a (G.ok p (List.mem_append_right _ hp)) m
    refine C.fr a (by rw [e]; simp) fun mi => ?_
    have c := G.sep a (by rw [hOwn_app]; exact List.mem_append_left _ (h2 a mi))
    rw [hLa_app, List.count_append] at c
    have c1 := List.count_pos_iff.mpr (hOwn_la (h2 a mi))
    have c2 := List.count_pos_iff.mpr (hLa_mem.mpr ⟨p, hp, m⟩)
    omega
  · rcases C.wr a m with e | e
    · exact .inr e
    · exact .inl (h2 a e)
  · rcases C.src a m with e | e
    · exact absurd e h
    · exact h1 a e
  · by_cases mi : a ∈ ioOwn sig.io ts
    · exact (C.io a mi).2
    · obtain ⟨_, xs, e⟩ := G.io a m
      exact ⟨xs, by rw [C.fr a (by rw [e]; simp) mi]; exact e⟩
  · refine C.fr a (G.alive h) fun mi => ?_
    rcases G.wr a (by rw [hOwn_app]; exact List.mem_append_left _ (h2 a mi)) with e | e
    · exact h e
    · exact m e
/-- the arguments' hold -/
def callH : List (Option Dp) → List T → Hold
  | k :: io, t :: ts => (t, k.getD (.fin 0)) :: callH io ts
  | _, _ => []
theorem callH_la : ∀ {io : List (Option Dp)} {ts : List T}, io.length = ts.length → hLa (callH io ts) = T.las ts
  | [], [], _ => rfl
  | k :: io, t :: ts, h => by
    unfold callH
    rw [hLa_cons, las_cons, callH_la (by simpa using h)]
  | [], _ :: _, h => by simp at h
  | _ :: _, [], h => by simp at h
theorem callH_own : ∀ {io : List (Option Dp)} {ts : List T} {a : Addr}, a ∈ ioOwn io ts → a ∈ hOwn (callH io ts)
  | [], ts, a, m => by simp [ioOwn] at m
  | k :: io, [], a, m => by simp [ioOwn] at m
  | k :: io, t :: ts, a, m => by
    unfold ioOwn at m
    rw [List.zip_cons_cons, List.flatMap_cons] at m
    unfold callH
    rw [hOwn_cons]
    rcases List.mem_append.mp m with m | m
    · refine List.mem_append_left _ ?_
      cases k with
      | none => simp at m
      | some k => exact m
    · exact List.mem_append_right _ (callH_own m)
theorem callH_pre (G : Good K H0 IO SR H (callH sig.io ts ++ R)) (hl : sig.io.length = ts.length) : SpPre K sig ts H := by
  refine ⟨hl, fun t ht => ?_, fun a m => ?_⟩
  · have : ∀ {io : List (Option Dp)} {ts : List T}, io.length = ts.length → ∀ t ∈ ts, ∃ k, (t, k) ∈ callH io ts := by
      intro io
      induction io with
      | nil =>
        intro ts h t ht
        cases ts with
        | nil => cases ht
        | cons _ _ => simp at h
      | cons k io ih =>
        intro ts h t ht
        cases ts with
        | nil => cases ht
        | cons u ts =>
          unfold callH
          rcases List.mem_cons.mp ht with e | ht
          · rw [e]; exact ⟨_, List.mem_cons_self⟩
          · obtain ⟨k', q⟩ := ih (by simpa using h) t ht
            exact ⟨k', List.mem_cons_of_mem _ q⟩
    obtain ⟨k, q⟩ := this hl t ht
    exact G.ok (t, k) (List.mem_append_left _ q)
  · have mo := callH_own m
    have c := G.sep a (by rw [hOwn_app]; exact List.mem_append_left _ mo)
    rw [hLa_app, List.count_append, callH_la hl] at c
    have c1 := List.count_pos_iff.mpr (own_ioLa m)
    omega
where
  own_ioLa {io : List (Option Dp)} {ts : List T} {a : Addr} (m : a ∈ ioOwn io ts) : a ∈ T.las ts := by
    unfold ioOwn at m
    obtain ⟨p, hp, m⟩ := List.mem_flatMap.mp m
    rw [las_flat]
    refine List.mem_flatMap.mpr ⟨p.2, (List.of_mem_zip hp).2, ?_⟩
    cases e : p.1 with
    | none => rw [e] at m; cases m
    | some k => rw [e] at m; exact own_la _ _ _ m
theorem set_self {τ : Tau} {i : Nat} {t : T} (h : oD τ i = some t) : τ.set i (some t) = τ := by
  refine List.ext_getElem? fun j => ?_
  by_cases c : i = j
  · subst c
    rw [List.getElem?_set_self (oD_lt h), oD_get h]
  · rw [List.getElem?_set_ne c]
theorem rset_self {ρ : REnv} {i : Nat} {d : D} (h : getD ρ i = some d) : ρ.set i (some d) = ρ := by
  refine List.ext_getElem? fun j => ?_
  by_cases c : i = j
  · subst c
    rw [List.getElem?_set_self (oD_lt h), oD_get h]
  · rw [List.getElem?_set_ne c]
/-- what was handed in stands in its names again -/
theorem putBack {n : Nat} {σ : L2.St} : ∀ {io : List (Option Dp)} {es : List E} {ts' : List T} {ds' : List D} {ρ : REnv} {g : Gam} {τ : Tau}, io.length = es.length → ts'.length = es.length → ds'.length = es.length →
    (∀ (j : Nat) (i : Nat), es[j]? = some (E.ref i) → ∃ k, io[j]? = some (some k)) →
    (∀ (j : Nat) (k : OH.Dp) (u : T), io[j]? = some (some k) → ts'[j]? = some u → ds'[j]? = some u.dat) →
    (∀ (j i : Nat) (u : T), es[j]? = some (E.ref i) → ts'[j]? = some u → σ[i]? = some (some u.val)) →
    Rel n ρ g τ σ → Good K H0 IO SR H (ioHold io ts' ++ (slots g τ ++ R)) →
    ∃ τ', Rel n (backD es ds' ρ) (putG g (ioPs io es)) τ' σ ∧ Good K H0 IO SR H (slots (putG g (ioPs io es)) τ' ++ R) ∧ ∀ i, i ∉ refs es → oD τ' i = oD τ i
  | [], [], [], [], ρ, g, τ, _, _, _, _, _, _, r, G => ⟨τ, r, G, fun _ _ => rfl⟩
  | k :: io, e :: es, u :: ts', d :: ds', ρ, g, τ, l1, l2, l3, hr, hd, hv, r, G => by
    by_cases he : ∃ i, e = .ref i
    · obtain ⟨i, rfl⟩ := he
      obtain ⟨k', hk⟩ := hr 0 i rfl
      simp only [List.getElem?_cons_zero, Option.some.injEq] at hk
      subst hk
      have ed : d = u.dat := by
        have := hd 0 k' u rfl rfl
        simpa using this
      subst ed
      have hs := hv 0 i u rfl rfl
      have G1 : Good K H0 IO SR H ((u, k') :: (slots g τ ++ (ioHold io ts' ++ R))) := by
        have q : ioHold (some k' :: io) (u :: ts') = (u, k') :: ioHold io ts' := rfl
        rw [q] at G
        refine G.perm (List.Perm.cons _ (?_ : (ioHold io ts' ++ (slots g τ ++ R)).Perm (slots g τ ++ (ioHold io ts' ++ R))))
        rw [← List.append_assoc, ← List.append_assoc]
        exact List.perm_append_comm.append_right R
      have G2 := G1.put (i := i)
      have r2 : Rel n (ρ.set i (some u.dat)) (g.set i (some k')) (τ.set i (some u)) σ := by
        have q := Rel.put r (i := i) (t := u) (k := k')
        have s : σ.set i (some u.val) = σ := by
          refine List.ext_getElem? fun j => ?_
          by_cases c : i = j
          · subst c
            have hi := (List.getElem?_eq_some_iff.mp hs).1
            rw [List.getElem?_set_self hi, hs]
          · rw [List.getElem?_set_ne c]
        rw [s] at q
        exact q
      obtain ⟨τ', r', G', f'⟩ := putBack (io := io) (es := es) (ts' := ts') (ds' := ds') (by simpa using l1) (by simpa using l2) (by simpa using l3) (fun j i h => hr (j + 1) i h) (fun j k u h1 h2 => hd (j + 1) k u h1 h2) (fun j i u h1 h2 => hv (j + 1) i u h1 h2) r2 G2.outR
      refine ⟨τ', r', G', fun j hj => ?_⟩
      have hj' : j ≠ i ∧ j ∉ refs es := by simpa [refs] using hj
      rw [f' j hj'.2, oD_set_ne (Ne.symm hj'.1)]
    · have e1 : backD (e :: es) (d :: ds') ρ = backD es ds' ρ := by
        cases e <;> first | rfl | exact absurd ⟨_, rfl⟩ he
      have e2 : ioPs (k :: io) (e :: es) = ioPs io es := by
        cases k <;> (cases e <;> first | rfl | exact absurd ⟨_, rfl⟩ he)
      have e3 : refs (e :: es) = refs es := by
        cases e <;> first | rfl | exact absurd ⟨_, rfl⟩ he
      have G1 : Good K H0 IO SR H (ioHold io ts' ++ (slots g τ ++ R)) := by
        cases k with
        | none => exact G
        | some k => exact (show Good K H0 IO SR H ((u, k) :: (ioHold io ts' ++ (slots g τ ++ R))) from G).drop
      obtain ⟨τ', r', G', f'⟩ := putBack (io := io) (es := es) (ts' := ts') (ds' := ds') (by simpa using l1) (by simpa using l2) (by simpa using l3) (fun j i h => hr (j + 1) i h) (fun j k u h1 h2 => hd (j + 1) k u h1 h2) (fun j i u h1 h2 => hv (j + 1) i u h1 h2) r G1
      rw [e1, e2, e3]
      exact ⟨τ', r', G', f'⟩
  | [], _ :: _, _, _, _, _, _, l1, _, _, _, _, _, _, _ => by simp at l1
  | _ :: _, [], _, _, _, _, _, l1, _, _, _, _, _, _, _ => by simp at l1
  | [], [], _ :: _, _, _, _, _, _, l2, _, _, _, _, _, _ => by simp at l2
  | [], [], [], _ :: _, _, _, _, _, _, l3, _, _, _, _, _ => by simp at l3
  | _ :: _, _ :: _, [], _, _, _, _, _, l2, _, _, _, _, _, _ => by simp at l2
  | _ :: _, _ :: _, _ :: _, [], _, _, _, _, _, l3, _, _, _, _, _ => by simp at l3
end
end OH

namespace OH
open PySem PySem.Spec PyProof.Rows L2
inductive IW where
  | one (t : T) (k : Dp)
  | two (t u : T) (k l : Dp)
def IW.hold : IW → Hold
  | .one t k => [(t, k)]
  | .two t u k l => [(t, k), (u, l)]
def IW.dat : IW → D
  | .one t _ => t.dat
  | .two t u _ _ => .tup [t.dat, u.dat]
def itW (k : ItK) (ts : List T) (ks : List Dp) : List IW := match k, ts, ks with
  | .list, [t], [k] => t.kids.map fun x => .one x k.pred
  | .tup, [t], [k] => t.kids.map fun x => .one x k.pred
  | .rev, [t], [k] => (t.kids.map fun x => .one x k.pred).reverse
  | .r1, [.int n], _ => (rgI 0 n).map fun i => .one (.int i) .om
  | .r2, [.int a, .int b], _ => (rgI a b).map fun i => .one (.int i) .om
  | .r3, [.int a, .int b, .int c], _ => (List.range (steps a b c)).map fun (j : Nat) => .one (.int (a + (j : Int) * c)) .om
  | .enum, [t], [k] => t.kids.zipIdx.map fun p => .two (.int (p.2 : Nat)) p.1 .om k.pred
  | .zip _, [t, u], [k, l] => (t.kids.zip u.kids).map fun p => .two p.1 p.2 k.pred l.pred
  | .str, [.str s], _ => s.cps.toList.map fun c => .one (.str ⟨#[c]⟩) .om
  | _, _, _ => []
def wDp : IW → List Dp
  | .one _ k => [k]
  | .two _ _ k l => [k, l]
theorem itW_dp {k : ItK} {ts : List T} {ks : List Dp} (l : ks.length = ts.length) : ∀ w ∈ itW k ts ks, wDp w = itDp k ks := by
  intro w hw
  unfold itW at hw
  split at hw
  · obtain ⟨x, _, rfl⟩ := List.mem_map.mp hw; rfl
  · obtain ⟨x, _, rfl⟩ := List.mem_map.mp hw; rfl
  · obtain ⟨x, _, rfl⟩ := List.mem_map.mp (List.mem_reverse.mp hw); rfl
  · obtain ⟨x, _, rfl⟩ := List.mem_map.mp hw; rfl
  · obtain ⟨x, _, rfl⟩ := List.mem_map.mp hw; rfl
  · obtain ⟨x, _, rfl⟩ := List.mem_map.mp hw; rfl
  · obtain ⟨x, _, rfl⟩ := List.mem_map.mp hw; rfl
  · obtain ⟨x, _, rfl⟩ := List.mem_map.mp hw; rfl
  · obtain ⟨x, _, rfl⟩ := List.mem_map.mp hw; rfl
  · cases hw
theorem len1 {α : Type} {ks : List α} (h : ks.length = 1) : ∃ k, ks = [k] := by
  match ks, h with
  | [k], _ => exact ⟨k, rfl⟩
theorem len2 {α : Type} {ks : List α} (h : ks.length = 2) : ∃ k l, ks = [k, l] := by
  match ks, h with
  | [k, l], _ => exact ⟨k, l, rfl⟩
theorem map_one (us : List T) (k : Dp) : (us.map fun x => IW.one x k).map IW.dat = T.dats us := by
  rw [List.map_map, dats_map]; rfl
theorem itW_dat {k : ItK} {ts : List T} {ks : List Dp} {items : List D} (l : ks.length = ts.length) (h : itD k (T.dats ts) = some items) : items = (itW k ts ks).map IW.dat := by
  cases k with
  | list =>
    simp only [itD] at h
    split at h
    · rename_i e2
      cases h
      obtain ⟨t, rfl, e⟩ := dats_one e2
      obtain ⟨a, us, rfl, rfl⟩ := dat_lst e
      obtain ⟨k, rfl⟩ := len1 l
      exact (map_one _ _).symm
    · cases h
  | tup =>
    simp only [itD] at h
    split at h
    · rename_i e2
      cases h
      obtain ⟨t, rfl, e⟩ := dats_one e2
      obtain ⟨a, us, rfl, rfl⟩ := dat_tup e
      obtain ⟨k, rfl⟩ := len1 l
      exact (map_one _ _).symm
    · cases h
  | rev =>
    simp only [itD] at h
    split at h
    · rename_i e2
      cases h
      obtain ⟨t, rfl, e⟩ := dats_one e2
      obtain ⟨a, us, rfl, rfl⟩ := dat_lst e
      obtain ⟨k, rfl⟩ := len1 l
      show (T.dats us).reverse = ((us.map fun x => IW.one x k.pred).reverse).map IW.dat
      rw [List.map_reverse, map_one]
    · cases h
  | r1 =>
    simp only [itD] at h
    split at h
    · rename_i e2
      split at h
      · cases h
        obtain ⟨t, rfl, e⟩ := dats_one e2
        rw [dat_int e]
        show rangeL 0 _ = ((rgI 0 _).map fun i => IW.one (.int i) .om).map IW.dat
        unfold rangeL rgI
        rw [List.map_map, List.map_map, Int.sub_zero]; rfl
      · cases h
    · cases h
  | r2 =>
    simp only [itD] at h
    split at h
    · rename_i e2
      split at h
      · cases h
        obtain ⟨t, u, rfl, e, e'⟩ := dats_two e2
        rw [dat_int e, dat_int e']
        show rangeL _ _ = ((rgI _ _).map fun i => IW.one (.int i) .om).map IW.dat
        unfold rangeL rgI
        rw [List.map_map, List.map_map]; rfl
      · cases h
    · cases h
  | r3 =>
    simp only [itD] at h
    split at h
    · rename_i e2
      split at h
      · cases h
        obtain ⟨t, u, w, rfl, e, e', e''⟩ := dats_three e2
        rw [dat_int e, dat_int e', dat_int e'']
        simp only [itW]
        rw [List.map_map]; rfl
      · cases h
    · cases h
  | enum =>
    simp only [itD] at h
    split at h
    · rename_i e2
      cases h
      obtain ⟨t, rfl, e⟩ := dats_one e2
      obtain ⟨a, us, rfl, rfl⟩ := dat_lst e
      obtain ⟨k, rfl⟩ := len1 l
      simp only [itW, T.kids]
      rw [List.map_map, dats_map, List.zipIdx_map, List.map_map]
      rfl
    · cases h
  | zip st =>
    have z : ∀ us ws : List T, ((T.dats us).zip (T.dats ws)).map (fun p => D.tup [p.1, p.2]) = ((us.zip ws).map fun p => IW.two p.1 p.2 (ks.head?.getD .om).pred ((ks.tail.head?).getD .om).pred).map IW.dat := fun us ws => by
      rw [dats_map, dats_map, List.map_map, List.zip_map, List.map_map]; rfl
    simp only [itD] at h
    split at h
    · rename_i e2
      obtain ⟨t, u, rfl, e, e'⟩ := dats_two e2
      obtain ⟨a, us, rfl, rfl⟩ := dat_lst e
      obtain ⟨b, ws, rfl, rfl⟩ := dat_lst e'
      obtain ⟨k, k2, rfl⟩ := len2 l
      have z' := z us ws
      split at h
      · cases h; exact z'
      · split at h
        · cases h
        · cases h; exact z'
    · rename_i e2
      obtain ⟨t, u, rfl, e, e'⟩ := dats_two e2
      obtain ⟨a, us, rfl, rfl⟩ := dat_tup e
      obtain ⟨b, ws, rfl, rfl⟩ := dat_tup e'
      obtain ⟨k, k2, rfl⟩ := len2 l
      have z' := z us ws
      split at h
      · cases h; exact z'
      · split at h
        · cases h
        · cases h; exact z'
    · cases h
  | str =>
    simp only [itD] at h
    split at h
    · rename_i e2
      cases h
      obtain ⟨t, rfl, e⟩ := dats_one e2
      rw [dat_str e]
      simp only [itW]
      rw [List.map_map]; rfl
    · cases h
abbrev wyld (w : IW) (H : Hp) (x : V) (H' : Hp) : Prop := match w with
  | .one t _ => H' = H ∧ x = t.val
  | .two t u _ _ => ∃ p, x = .ref p ∧ H p = none ∧ H' = upd H p (.tup [t.val, u.val])
/-- what the iterator gives, turn by turn, while C holds -/
structure Wk (J : It) (C : Hp → Prop) (ws : List IW) : Prop where
  go : ∀ (i : Nat) (H : Hp), C H → i < ws.length → J.go i H
  stop : ∀ (H : Hp), C H → J.stop ws.length H
  yld : ∀ (i : Nat) (H : Hp) (x : V) (H' : Hp) (w : IW), C H → ws[i]? = some w → J.yld i H x H' → wyld w H x H'
def rIt (K : PySem.W.Frag) (k : ItK) (vs : List V) (H : Hp) (R : It → Hp → Prop) : Prop := match k with
  | .list => ∃ a, vs = [.ref a] ∧ (∃ xs, SqL K H a xs) ∧ R (Itl K a) H
  | .tup => ∃ a, vs = [.ref a] ∧ (∃ xs, SqT K H a xs) ∧ R (Itt K a) H
  | .r1 => ∃ j : Int, vs = [.int j] ∧ -(2 ^ 62) ≤ j ∧ j < 2 ^ 62 ∧ R (Itr 0 j.toNat) H
  | .r2 => ∃ i j : Int, vs = [.int i, .int j] ∧ (-(2 ^ 62) ≤ i ∧ i < 2 ^ 62 ∧ -(2 ^ 62) ≤ j ∧ j < 2 ^ 62) ∧ R (Itr i (j - i).toNat) H
  | .r3 => ∃ (i j c : Int) (n : Nat), vs = [.int i, .int j, .int c] ∧ RgC i j c n ∧ R (Itc i c n) H
  | .enum => ∃ a xs, vs = [.ref a] ∧ SqL K H a xs ∧ R (Ite K a) H
  | .zip false => ∃ a b xs ys, vs = [.ref a, .ref b] ∧ ((SqL K H a xs ∧ SqL K H b ys ∧ R (Itz K a b) H) ∨ (SqT K H a xs ∧ SqT K H b ys ∧ R (RZ.ItzT K a b) H))
  | .zip true => False
  | .rev => ∃ (a : Addr) (xs : List V), vs = [.ref a] ∧ SqL K H a xs ∧ R (Itv K a xs.length) H
  | .str => ∃ x, vs = [.str x] ∧ R (Its x) H
def itAr : ItK → Nat | .r2 => 2 | .r3 => 3 | .zip _ => 2 | _ => 1
theorem itD_ar {k : ItK} {ds : List D} {items : List D} (h : itD k ds = some items) : ds.length = itAr k := by
  cases k <;> (simp only [itD] at h; split at h <;> first | rfl | cases h)
theorem tIt_of {K : PySem.W.Frag} {k : ItK} {tes : List TE} {σ : L2.St} {H : Hp} {R : It → Hp → Prop} (l : tes.length = itAr k) (hz : k ≠ .zip true) (h : seqT tes σ H fun vs H1 => rIt K k vs H1 R) : tIt K k tes σ H R := by
  have one : ∀ {P : V → Hp → Prop} {t : TE}, (seqT [t] σ H fun vs H1 => ∃ a, vs = [a] ∧ P a H1) → t σ H P := fun {P t} h => by
    have e : (fun (x : V) (H1 : Hp) => ∃ a, [x] = [a] ∧ P a H1) = P := by
      funext x H1
      apply propext
      constructor
      · rintro ⟨a, e, q⟩; cases e; exact q
      · intro q; exact ⟨x, rfl, q⟩
    have h' : t σ H (fun (x : V) (H1 : Hp) => ∃ a, [x] = [a] ∧ P a H1) := h
    rw [e] at h'
    exact h'
  cases k with
  | list =>
    obtain ⟨t, rfl⟩ := len1 l
    show t σ H _
    refine one ?_
    refine cast (congrArg (seqT [t] σ H) (funext fun vs => funext fun H1 => propext ⟨?_, ?_⟩)) h
    · rintro ⟨a, rfl, q⟩; exact ⟨_, rfl, a, rfl, q⟩
    · rintro ⟨_, rfl, a, rfl, q⟩; exact ⟨a, rfl, q⟩
  | tup =>
    obtain ⟨t, rfl⟩ := len1 l
    show t σ H _
    refine one ?_
    refine cast (congrArg (seqT [t] σ H) (funext fun vs => funext fun H1 => propext ⟨?_, ?_⟩)) h
    · rintro ⟨a, rfl, q⟩; exact ⟨_, rfl, a, rfl, q⟩
    · rintro ⟨_, rfl, a, rfl, q⟩; exact ⟨a, rfl, q⟩
  | str =>
    obtain ⟨t, rfl⟩ := len1 l
    show t σ H _
    refine one ?_
    refine cast (congrArg (seqT [t] σ H) (funext fun vs => funext fun H1 => propext ⟨?_, ?_⟩)) h
    · rintro ⟨a, rfl, q⟩; exact ⟨_, rfl, a, rfl, q⟩
    · rintro ⟨_, rfl, a, rfl, q⟩; exact ⟨a, rfl, q⟩
  | r1 => obtain ⟨t, rfl⟩ := len1 l; exact h
  | r2 => obtain ⟨t, u, rfl⟩ := len2 l; exact h
  | r3 =>
    match tes, l with
    | [t, u, w], _ => exact h
  | enum => obtain ⟨t, rfl⟩ := len1 l; exact h
  | zip st =>
    obtain ⟨t, u, rfl⟩ := len2 l
    cases st with
    | false => exact h
    | true => exact absurd rfl hz
  | rev => obtain ⟨t, rfl⟩ := len1 l; exact h
theorem rIt_ok {K : PySem.W.Frag} {k : ItK} {ts : List T} {ks : List Dp} {items : List D} {H : Hp} {R : It → Hp → Prop} (l : ks.length = ts.length) (h : itD k (T.dats ts) = some items) (hz : k ≠ .zip true) (ok : ∀ t ∈ ts, T.ok K H t.root)
    (hR : ∀ J, Wk J (fun H => ∀ t ∈ ts, T.ok K H t.root) (itW k ts ks) → R J H) : rIt K k (vals ts) H R := by
  have rl : ∀ {H : Hp} {a : Addr} {us : List T}, T.ok K H (T.root (.lst a us)) → SqL K H a (vals us) := fun h => by
    unfold T.root T.ok at h; exact SqL.of h
  have rt : ∀ {H : Hp} {a : Addr} {us : List T}, T.ok K H (T.root (.tup a us)) → SqT K H a (vals us) := fun h => by
    unfold T.root T.ok at h; rw [if_pos rfl] at h; exact SqT.of h
  have vl : ∀ us : List T, (vals us).length = us.length := fun us => List.length_map _
  have vg : ∀ {us : List T} {i : Nat} {t : T}, us[i]? = some t → (vals us)[i]? = some t.val := fun h => by
    show (List.map _ _)[_]? = _
    rw [List.getElem?_map, h]; rfl
  cases k with
  | list =>
    simp only [itD] at h
    split at h
    · rename_i e2
      obtain ⟨t, rfl, e⟩ := dats_one e2
      obtain ⟨a, us, rfl, rfl⟩ := dat_lst e
      obtain ⟨k, rfl⟩ := len1 l
      refine ⟨a, rfl, ⟨_, rl (ok _ List.mem_cons_self)⟩, hR _ ⟨fun i H c hi => ?_, fun H c => ?_, fun i H x H' w c hw y => ?_⟩⟩
      · have q := rl (c _ List.mem_cons_self)
        simp only [itW, T.kids, List.length_map] at hi
        exact ⟨_, _, q, vg (List.getElem?_eq_getElem hi)⟩
      · have q := rl (c _ List.mem_cons_self)
        simp only [itW, T.kids, List.length_map]
        exact ⟨_, q, by rw [vl]; exact Nat.le_refl _⟩
      · have q := rl (c _ List.mem_cons_self)
        simp only [itW, T.kids, List.getElem?_map, Option.map_eq_some_iff] at hw
        obtain ⟨u, hu, rfl⟩ := hw
        refine ⟨y.1, ?_⟩
        have := y.2 _ q
        rw [vg hu] at this
        exact (Option.some.inj this).symm
    · cases h
  | tup =>
    simp only [itD] at h
    split at h
    · rename_i e2
      obtain ⟨t, rfl, e⟩ := dats_one e2
      obtain ⟨a, us, rfl, rfl⟩ := dat_tup e
      obtain ⟨k, rfl⟩ := len1 l
      refine ⟨a, rfl, ⟨_, rt (ok _ List.mem_cons_self)⟩, hR _ ⟨fun i H c hi => ?_, fun H c => ?_, fun i H x H' w c hw y => ?_⟩⟩
      · have q := rt (c _ List.mem_cons_self)
        simp only [itW, T.kids, List.length_map] at hi
        exact ⟨_, _, q, vg (List.getElem?_eq_getElem hi)⟩
      · have q := rt (c _ List.mem_cons_self)
        simp only [itW, T.kids, List.length_map]
        exact ⟨_, q, by rw [vl]; exact Nat.le_refl _⟩
      · have q := rt (c _ List.mem_cons_self)
        simp only [itW, T.kids, List.getElem?_map, Option.map_eq_some_iff] at hw
        obtain ⟨u, hu, rfl⟩ := hw
        refine ⟨y.1, ?_⟩
        have := y.2 _ q
        rw [vg hu] at this
        exact (Option.some.inj this).symm
    · cases h
  | rev =>
    simp only [itD] at h
    split at h
    · rename_i e2
      obtain ⟨t, rfl, e⟩ := dats_one e2
      obtain ⟨a, us, rfl, rfl⟩ := dat_lst e
      obtain ⟨k, rfl⟩ := len1 l
      refine ⟨a, vals us, rfl, rl (ok _ List.mem_cons_self), hR _ ⟨fun i H c hi => ?_, fun H c => ?_, fun i H x H' w c hw y => ?_⟩⟩
      · have q := rl (c _ List.mem_cons_self)
        simp only [itW, T.kids, List.length_map, List.length_reverse] at hi
        refine ⟨by rw [vl]; exact hi, _, _, q, vg (List.getElem?_eq_getElem (i := us.length - 1 - i) (by omega)) |> fun z => by rw [vl]; exact z⟩
      · simp only [itW, T.kids, List.length_map, List.length_reverse]
        exact Nat.le_refl _
      · have q := rl (c _ List.mem_cons_self)
        have hi := (List.getElem?_eq_some_iff.mp hw).1
        simp only [itW, T.kids, List.length_map, List.length_reverse] at hi
        simp only [itW, T.kids] at hw
        rw [List.getElem?_reverse (by rw [List.length_map]; exact hi), List.length_map, List.getElem?_map, Option.map_eq_some_iff] at hw
        obtain ⟨u, hu, rfl⟩ := hw
        refine ⟨y.1, ?_⟩
        have := y.2 _ q
        rw [vl, vg hu] at this
        exact (Option.some.inj this).symm
    · cases h
  | r1 =>
    simp only [itD] at h
    split at h
    · rename_i e2
      split at h
      · rename_i c
        obtain ⟨t, rfl, e⟩ := dats_one e2
        have et := dat_int e
        subst et
        simp only [LIM] at c
        refine ⟨_, rfl, by omega, by omega, hR _ ⟨fun i H c hi => ?_, fun H c => ?_, fun i H x H' w c hw y => ?_⟩⟩
        · simpa [itW, rgI, Itr] using hi
        · simp only [itW, rgI, List.length_map, List.length_range, Int.sub_zero]
          exact Nat.le_refl _
        · simp only [itW, List.getElem?_map, Option.map_eq_some_iff, rgI] at hw
          obtain ⟨n, ⟨j, hj, rfl⟩, rfl⟩ := hw
          obtain ⟨h1, h2⟩ := List.getElem?_eq_some_iff.mp hj
          simp at h2
          subst h2
          exact ⟨y.1, y.2⟩
      · cases h
    · cases h
  | r2 =>
    simp only [itD] at h
    split at h
    · rename_i e2
      split at h
      · rename_i c
        obtain ⟨t, u, rfl, e, e'⟩ := dats_two e2
        have et := dat_int e
        have et' := dat_int e'
        subst et; subst et'
        simp only [LIM] at c
        refine ⟨_, _, rfl, ⟨by omega, by omega, by omega, by omega⟩, hR _ ⟨fun i H c hi => ?_, fun H c => ?_, fun i H x H' w c hw y => ?_⟩⟩
        · simpa [itW, rgI, Itr] using hi
        · simp only [itW, rgI, List.length_map, List.length_range]
          exact Nat.le_refl _
        · simp only [itW, List.getElem?_map, Option.map_eq_some_iff, rgI] at hw
          obtain ⟨n, ⟨j, hj, rfl⟩, rfl⟩ := hw
          obtain ⟨h1, h2⟩ := List.getElem?_eq_some_iff.mp hj
          simp at h2
          subst h2
          exact ⟨y.1, y.2⟩
      · cases h
    · cases h
  | r3 =>
    simp only [itD] at h
    split at h
    · rename_i a b c0 e2
      split at h
      · rename_i c
        obtain ⟨t, u, w, rfl, e, e', e''⟩ := dats_three e2
        have et := dat_int e
        have et' := dat_int e'
        have et'' := dat_int e''
        subst et; subst et'; subst et''
        simp only [LIM] at c
        have es : Builtin.Range.rangeSize a b c0 = (steps a b c0 : Nat) := rangeSize_toNat a b c0
        have le := rangeSize_toNat_le a b c0
        refine ⟨_, _, _, steps a b c0, rfl, ⟨by omega, by omega, ?_, es⟩, hR _ ⟨fun i H c hi => ?_, fun H c => ?_, fun i H x H' w c hw y => ?_⟩⟩
        · unfold Builtin.Range.small
          have l2 : Builtin.Range.rangeSize a b c0 ≤ 2 ^ 40 := by
            rw [es]; unfold steps; omega
          have l3 : 0 ≤ Builtin.Range.rangeSize a b c0 := by rw [es]; omega
          simp only [Builtin.Range.rangeFitsLong, Bool.and_eq_true, Bool.or_eq_true, decide_eq_true_eq, beq_iff_eq]
          rw [if_pos (by omega)]
          simp only [Bool.and_eq_true, decide_eq_true_eq]
          omega
        · simpa [itW, Itc] using hi
        · simp [itW, Itc]
        · simp only [itW, List.getElem?_map, Option.map_eq_some_iff] at hw
          obtain ⟨j, hj, rfl⟩ := hw
          obtain ⟨h1, h2⟩ := List.getElem?_eq_some_iff.mp hj
          simp at h2
          subst h2
          exact ⟨y.1, y.2⟩
      · cases h
    · cases h
  | enum =>
    simp only [itD] at h
    split at h
    · rename_i e2
      obtain ⟨t, rfl, e⟩ := dats_one e2
      obtain ⟨a, us, rfl, rfl⟩ := dat_lst e
      obtain ⟨k, rfl⟩ := len1 l
      refine ⟨a, vals us, rfl, rl (ok _ List.mem_cons_self), hR _ ⟨fun i H c hi => ?_, fun H c => ?_, fun i H x H' w c hw y => ?_⟩⟩
      · have q := rl (c _ List.mem_cons_self)
        simp only [itW, T.kids, List.length_map, List.length_zipIdx] at hi
        exact ⟨_, _, q, vg (List.getElem?_eq_getElem hi)⟩
      · have q := rl (c _ List.mem_cons_self)
        simp only [itW, T.kids, List.length_map, List.length_zipIdx]
        exact ⟨_, q, by rw [vl]; exact Nat.le_refl _⟩
      · have q := rl (c _ List.mem_cons_self)
        simp only [itW, T.kids, List.getElem?_map, Option.map_eq_some_iff, List.getElem?_zipIdx] at hw
        obtain ⟨u, ⟨u', hu, rfl⟩, rfl⟩ := hw
        obtain ⟨p, x', rfl, hp, rfl, hx⟩ := y
        have := hx _ q
        rw [vg hu] at this
        cases this
        exact ⟨p, rfl, hp, by rw [Nat.zero_add]; rfl⟩
    · cases h
  | zip st =>
    cases st with
    | true => exact absurd rfl hz
    | false =>
      simp only [itD] at h
      split at h
      · rename_i e2
        obtain ⟨t, u, rfl, e, e'⟩ := dats_two e2
        obtain ⟨a, us, rfl, rfl⟩ := dat_lst e
        obtain ⟨b, ws, rfl, rfl⟩ := dat_lst e'
        obtain ⟨k, k2, rfl⟩ := len2 l
        refine ⟨a, b, vals us, vals ws, rfl, .inl ⟨rl (ok _ List.mem_cons_self), rl (ok _ (List.mem_cons_of_mem _ List.mem_cons_self)), hR _ ⟨fun i H c hi => ?_, fun H c => ?_, fun i H x H' w c hw y => ?_⟩⟩⟩
        · have q := rl (c _ List.mem_cons_self)
          have q2 := rl (c _ (List.mem_cons_of_mem _ List.mem_cons_self))
          simp only [itW, T.kids, List.length_map, List.length_zip] at hi
          exact ⟨_, _, _, _, q, q2, vg (List.getElem?_eq_getElem (by omega)), vg (List.getElem?_eq_getElem (by omega))⟩
        · have q := rl (c _ List.mem_cons_self)
          have q2 := rl (c _ (List.mem_cons_of_mem _ List.mem_cons_self))
          simp only [itW, T.kids, List.length_map, List.length_zip]
          exact ⟨_, _, q, q2, by rw [vl, vl]; omega⟩
        · have q := rl (c _ List.mem_cons_self)
          have q2 := rl (c _ (List.mem_cons_of_mem _ List.mem_cons_self))
          simp only [itW, T.kids, List.getElem?_map, Option.map_eq_some_iff, List.getElem?_zip_eq_some] at hw
          obtain ⟨p, ⟨h1, h2⟩, rfl⟩ := hw
          obtain ⟨p', x', y', rfl, hp, rfl, hx, hy⟩ := y
          have z1 := hx _ q
          have z2 := hy _ q2
          rw [vg h1] at z1
          rw [vg h2] at z2
          cases z1; cases z2
          exact ⟨p', rfl, hp, rfl⟩
      · rename_i e2
        obtain ⟨t, u, rfl, e, e'⟩ := dats_two e2
        obtain ⟨a, us, rfl, rfl⟩ := dat_tup e
        obtain ⟨b, ws, rfl, rfl⟩ := dat_tup e'
        obtain ⟨k, k2, rfl⟩ := len2 l
        refine ⟨a, b, vals us, vals ws, rfl, .inr ⟨rt (ok _ List.mem_cons_self), rt (ok _ (List.mem_cons_of_mem _ List.mem_cons_self)), hR _ ⟨fun i H c hi => ?_, fun H c => ?_, fun i H x H' w c hw y => ?_⟩⟩⟩
        · have q := rt (c _ List.mem_cons_self)
          have q2 := rt (c _ (List.mem_cons_of_mem _ List.mem_cons_self))
          simp only [itW, T.kids, List.length_map, List.length_zip] at hi
          exact ⟨_, _, _, _, q, q2, vg (List.getElem?_eq_getElem (by omega)), vg (List.getElem?_eq_getElem (by omega))⟩
        · have q := rt (c _ List.mem_cons_self)
          have q2 := rt (c _ (List.mem_cons_of_mem _ List.mem_cons_self))
          simp only [itW, T.kids, List.length_map, List.length_zip]
          exact ⟨_, _, q, q2, by rw [vl, vl]; omega⟩
        · have q := rt (c _ List.mem_cons_self)
          have q2 := rt (c _ (List.mem_cons_of_mem _ List.mem_cons_self))
          simp only [itW, T.kids, List.getElem?_map, Option.map_eq_some_iff, List.getElem?_zip_eq_some] at hw
          obtain ⟨p, ⟨h1, h2⟩, rfl⟩ := hw
          obtain ⟨p', x', y', rfl, hp, rfl, hx, hy⟩ := y
          have z1 := hx _ q
          have z2 := hy _ q2
          rw [vg h1] at z1
          rw [vg h2] at z2
          cases z1; cases z2
          exact ⟨p', rfl, hp, rfl⟩
      · cases h
  | str =>
    simp only [itD] at h
    split at h
    · rename_i e2
      obtain ⟨t, rfl, e⟩ := dats_one e2
      have et := dat_str e
      subst et
      refine ⟨_, rfl, hR _ ⟨fun i H c hi => ?_, fun H c => ?_, fun i H x H' w c hw y => ?_⟩⟩
      · simpa [itW, Its] using hi
      · simp [itW, Its]
      · simp only [itW, List.getElem?_map, Option.map_eq_some_iff] at hw
        obtain ⟨j, hj, rfl⟩ := hw
        obtain ⟨y1, c2, hc, rfl⟩ := y
        refine ⟨y1, ?_⟩
        rw [Array.getElem?_toList, hc] at hj
        cases hj; rfl
    · cases h
end OH

namespace OH
open PySem PySem.Spec PyProof.Rows L2
section
variable {K : PySem.W.Frag} {H0 H H' : Hp} {IO SR : List Addr} {R S : Hold} {g : Gam} {τ : Tau} {t : T} {k : Dp} {n : Nat} {ρ ρ1 : REnv} {σ : L2.St}
theorem tup_puts {k : Dp} {Q : L2.St → Hp → Prop} : ∀ {is : List Nat} {us : List T} {ρ : REnv} {g : Gam} {τ : Tau} {σ : L2.St}, is.length = us.length → Rel n ρ g τ σ → Good K H0 IO SR H ((us.map fun x => (x, k)) ++ (slots g τ ++ R)) →
    (∀ τ1 σ1, Rel n ((is.zip (T.dats us)).foldl (fun r (p : Nat × D) => r.set p.1 (some p.2)) ρ) (putG g (is.map fun i => (i, k))) τ1 σ1 → Good K H0 IO SR H (slots (putG g (is.map fun i => (i, k))) τ1 ++ R) →
      (∀ j, j ∉ is → oD τ1 j = oD τ j) → (∀ j, j ∉ is → σ1[j]? = σ[j]?) → Q σ1 H) → tTg.gNms is (vals us) σ H Q
  | [], [], ρ, g, τ, σ, _, r, G, hQ => ⟨rfl, hQ τ σ r G (fun _ _ => rfl) fun _ _ => rfl⟩
  | i :: is, u :: us, ρ, g, τ, σ, l, r, G, hQ => by
    refine ⟨u.val, vals us, rfl, ?_⟩
    show tTg.gNms is (vals us) (σ.set i (some u.val)) H Q
    have G1 : Good K H0 IO SR H ((u, k) :: (slots g τ ++ ((us.map fun x => (x, k)) ++ R))) := by
      refine G.perm (List.Perm.cons _ (?_ : ((us.map fun x => (x, k)) ++ (slots g τ ++ R)).Perm (slots g τ ++ ((us.map fun x => (x, k)) ++ R))))
      rw [← List.append_assoc, ← List.append_assoc]
      exact List.perm_append_comm.append_right R
    refine tup_puts (is := is) (us := us) (by simpa using l) (Rel.put r (i := i) (t := u) (k := k)) (G1.put (i := i)).outR fun τ1 σ1 r1 g1 f1 f2 => ?_
    refine hQ τ1 σ1 r1 g1 (fun j hj => ?_) fun j hj => ?_
    · have hj' : j ≠ i ∧ j ∉ is := by simpa using hj
      rw [f1 j hj'.2, oD_set_ne (Ne.symm hj'.1)]
    · have hj' : j ≠ i ∧ j ∉ is := by simpa using hj
      rw [f2 j hj'.2, List.getElem?_set_ne (Ne.symm hj'.1)]
  | [], _ :: _, _, _, _, _, l, _, _, _ => by simp at l
  | _ :: _, [], _, _, _, _, l, _, _, _ => by simp at l
def tgPs (t : Tg) (k : Dp) : List (Nat × Dp) := match t with | .nm i => [(i, k)] | .tp is => is.map fun i => (i, k.pred)
theorem bind_tree {t : Tg} {d : T} {k : Dp} {Q : L2.St → Hp → Prop} (hb : bindT t d.dat ρ = some ρ1) (r : Rel n ρ g τ σ) (G : Good K H0 IO SR H ((d, k) :: (slots g τ ++ R)))
    (hQ : ∀ τ1 σ1 g1, g1 = putG g (tgPs t k) → Rel n ρ1 g1 τ1 σ1 → Good K H0 IO SR H (slots g1 τ1 ++ R) → (∀ j, j ∉ tgs t → oD τ1 j = oD τ j) → (∀ j, j ∉ tgs t → σ1[j]? = σ[j]?) → Q σ1 H) : tTg K t d.val σ H Q := by
  cases t with
  | nm i =>
    unfold bindT at hb; cases hb
    refine hQ _ _ _ rfl (Rel.put r) (G.put (i := i)) (fun j hj => ?_) fun j hj => ?_
    · exact oD_set_ne (fun e => hj (by simp [tgs, e]))
    · exact List.getElem?_set_ne (fun e => hj (by simp [tgs, e]))
  | tp is =>
    have kid : ∀ {a : Addr} {us : List T}, d.kids = us → Good K H0 IO SR H ((us.map fun x => (x, k.pred)) ++ (slots g τ ++ R)) := fun {a us} e => by
      have q := G.split.drop
      unfold kidH at q
      rw [e] at q
      exact q
    cases hd : d.dat <;> rw [hd] at hb <;> simp only [bindT, reduceCtorEq] at hb
    · rename_i ds
      split at hb <;> cases hb
      rename_i l
      obtain ⟨a, us, rfl, rfl⟩ := dat_lst hd
      have o := G.ok _ List.mem_cons_self
      unfold T.ok at o
      rw [dats_len] at l
      refine .inr ⟨a, vals us, rfl, SqL.of o.1, by rw [l]; exact List.length_map _, tup_puts l r (kid (a := a) rfl) fun τ1 σ1 r1 g1 f1 f2 => hQ τ1 σ1 _ rfl r1 g1 f1 f2⟩
    · rename_i ds
      split at hb <;> cases hb
      rename_i l
      obtain ⟨a, us, rfl, rfl⟩ := dat_tup hd
      have o := G.ok _ List.mem_cons_self
      unfold T.ok at o
      rw [dats_len] at l
      refine .inl ⟨a, vals us, rfl, SqT.of o.1, by rw [l]; exact List.length_map _, tup_puts l r (kid (a := a) rfl) fun τ1 σ1 r1 g1 f1 f2 => hQ τ1 σ1 _ rfl r1 g1 f1 f2⟩
theorem bind_ok {t : Tg} {kk : ItK} {ks : List Dp} {w : IW} {ps : List (Nat × Dp)} {Q : L2.St → Hp → Prop} {x : V} (ht : tgDp t kk ks = some ps) (hw : wDp w = itDp kk ks) (hb : bindT t w.dat ρ = some ρ1) (r : Rel n ρ g τ σ) (G : Good K H0 IO SR H (w.hold ++ (slots g τ ++ R)))
    (y : wyld w H x H')
    (hQ : ∀ τ1 σ1, Rel n ρ1 (putG g ps) τ1 σ1 → Good K H0 IO SR H' (slots (putG g ps) τ1 ++ R) → (∀ j, j ∉ tgs t → oD τ1 j = oD τ j) → (∀ j, j ∉ tgs t → σ1[j]? = σ[j]?) → Q σ1 H') : tTg K t x σ H' Q := by
  cases w with
  | one d k =>
    obtain ⟨rfl, rfl⟩ := y
    have hw' : itDp kk ks = [k] := hw.symm
    refine bind_tree hb r G fun τ1 σ1 g1 e r1 G1 f1 f2 => ?_
    have ep : ps = tgPs t k := by
      unfold tgDp at ht
      unfold tgPs
      rw [hw'] at ht
      cases t with
      | nm i => simpa using ht.symm
      | tp is => simpa using ht.symm
    rw [← ep] at e
    subst e
    exact hQ τ1 σ1 r1 G1 f1 f2
  | two d u k l =>
    obtain ⟨p, rfl, hp, rfl⟩ := y
    have hw' : itDp kk ks = [k, l] := hw.symm
    have Gh : Good K H0 IO SR H ([(d, k), (u, l)] ++ (slots g τ ++ R)) := G
    have od := Gh.ok (d, k) List.mem_cons_self
    have ou := Gh.ok (u, l) (List.mem_cons_of_mem _ List.mem_cons_self)
    unfold tgDp at ht
    rw [hw'] at ht
    cases t with
    | nm i =>
      simp only [Option.some.injEq] at ht
      subst ht
      have G1 := Good.newT (old := [(d, k), (u, l)]) (k := k.mn l) (ts := [d, u]) Gh hp (fun t ht => by
        rcases List.mem_cons.mp ht with e | ht
        · rw [e]; exact od
        · rw [List.mem_singleton.mp ht]; exact ou) (fun a m => by
        unfold T.owns at m
        rcases List.mem_append.mp m with m | m
        · exact hOwn_mem.mpr ⟨(d, k), List.mem_cons_self, own_mono (Dp.mn_le_l k l) _ _ m⟩
        · unfold T.owns at m
          rcases List.mem_append.mp m with m | m
          · exact hOwn_mem.mpr ⟨(u, l), List.mem_cons_of_mem _ List.mem_cons_self, own_mono (Dp.mn_le_r k l) _ _ m⟩
          · simp [T.owns] at m) (fun a => by simp [hLa, T.las])
      have hb' : bindT (.nm i) (T.dat (.tup p [d, u])) ρ = some ρ1 := hb
      exact bind_tree (d := .tup p [d, u]) hb' r G1 fun τ1 σ1 g1 e r1 G2 f1 f2 => by
        subst e
        exact hQ τ1 σ1 r1 G2 f1 f2
    | tp is =>
      have G0 : Good K H0 IO SR (upd H p (.tup [d.val, u.val])) ((d, k) :: (u, l) :: (slots g τ ++ R)) := junk (o := .tup [d.val, u.val]) Gh hp
      match is, ht, hb with
      | [i, j], ht, hb =>
        simp only at ht
        split at ht <;> cases ht
        rename_i hij
        have eb : ρ1 = (ρ.set i (some d.dat)).set j (some u.dat) := by
          have hb' : bindT (.tp [i, j]) (.tup [d.dat, u.dat]) ρ = some ρ1 := hb
          simp only [bindT] at hb'
          rw [if_pos (show [i, j].length = [d.dat, u.dat].length from rfl)] at hb'
          exact (Option.some.inj hb').symm
        subst eb
        refine .inl ⟨p, [d.val, u.val], rfl, SqT.of upd_same, rfl, d.val, [u.val], rfl, u.val, [], rfl, rfl, ?_⟩
        have G1 : Good K H0 IO SR (upd H p (.tup [d.val, u.val])) ((d, k) :: (slots g τ ++ ((u, l) :: R))) := by
          refine G0.perm (List.Perm.cons _ (?_ : ((u, l) :: (slots g τ ++ R)).Perm (slots g τ ++ ((u, l) :: R))))
          exact List.perm_middle.symm
        have G2 := (G1.put (i := i))
        have G3 : Good K H0 IO SR (upd H p (.tup [d.val, u.val])) ((u, l) :: (slots (g.set i (some k)) (τ.set i (some d)) ++ R)) := G2.perm List.perm_middle
        refine hQ _ _ (Rel.put (Rel.put r (i := i) (t := d) (k := k)) (i := j) (t := u) (k := l)) (G3.put (i := j)) (fun m hm => ?_) fun m hm => ?_
        · have hm' : m ≠ i ∧ m ≠ j := by simpa [tgs] using hm
          rw [oD_set_ne (Ne.symm hm'.2), oD_set_ne (Ne.symm hm'.1)]
        · have hm' : m ≠ i ∧ m ≠ j := by simpa [tgs] using hm
          rw [List.getElem?_set_ne (Ne.symm hm'.2), List.getElem?_set_ne (Ne.symm hm'.1)]
      | [], ht, hb => simp at ht
      | [_], ht, hb => simp at ht
      | _ :: _ :: _ :: _, ht, hb => simp at ht

/-! ### items one by one -/
def rtHold : List E → List T → Hold
  | .vin _ :: es, _ :: ts => rtHold es ts
  | _ :: es, t :: ts => (t.root, .fin 0) :: rtHold es ts
  | _, _ => []
def kidsAll : List T → List Dp → Hold
  | t :: ts, k :: ks => kidH t k.pred ++ kidsAll ts ks
  | _, _ => []
theorem rtHold_not {e : E} {es : List E} {t : T} {ts : List T} (h : isVin e = false) : rtHold (e :: es) (t :: ts) = (t.root, .fin 0) :: rtHold es ts := by
  cases e <;> first | rfl | (simp [isVin] at h)
theorem Good.apart : ∀ {es : List E} {ts : List T} {ks : List Dp} {S : Hold}, es.length = ts.length → ks.length = ts.length → (∀ (j i : Nat) (k : OH.Dp), es[j]? = some (E.vin i) → ks[j]? = some k → k = OH.Dp.fin 0) → Good K H0 IO SR H (opHold es ts ks ++ S) → Good K H0 IO SR H (rtHold es ts ++ (kidsAll ts ks ++ S))
  | [], [], [], S, _, _, _, G => G
  | e :: es, t :: ts, k :: ks, S, l1, l2, vk, G => by
    have vk' : ∀ (j i : Nat) (k : OH.Dp), es[j]? = some (E.vin i) → ks[j]? = some k → k = OH.Dp.fin 0 := fun j i k h1 h2 => vk (j + 1) i k h1 h2
    by_cases hv : isVin e = true
    · cases e <;> first | (simp [isVin] at hv; done) | skip
      rename_i i
      have ek := vk 0 i k rfl rfl
      subst ek
      rw [opHold_vin, List.append_assoc] at G
      have G1 := Good.apart (es := es) (ts := ts) (ks := ks) (by simpa using l1) (by simpa using l2) vk' G.inR
      show Good K H0 IO SR H (rtHold es ts ++ ((kidH t (.fin 0) ++ kidsAll ts ks) ++ S))
      refine G1.perm (List.Perm.append_left _ ?_)
      rw [← List.append_assoc]
      exact List.perm_append_comm.append_right S
    · have hv' : isVin e = false := by simpa using hv
      rw [opHold_not hv'] at G
      rw [rtHold_not hv']
      have G1 : Good K H0 IO SR H ((t.root, .fin 0) :: (kidH t k.pred ++ (opHold es ts ks ++ S))) := Good.split G
      have G2 : Good K H0 IO SR H (opHold es ts ks ++ ((t.root, .fin 0) :: (kidH t k.pred ++ S))) := by
        refine G1.perm ?_
        refine (List.Perm.cons _ (?_ : (kidH t k.pred ++ (opHold es ts ks ++ S)).Perm (opHold es ts ks ++ (kidH t k.pred ++ S)))).trans List.perm_middle.symm
        rw [← List.append_assoc, ← List.append_assoc]
        exact List.perm_append_comm.append_right S
      have G3 := Good.apart (es := es) (ts := ts) (ks := ks) (by simpa using l1) (by simpa using l2) vk' G2
      show Good K H0 IO SR H ((t.root, .fin 0) :: (rtHold es ts ++ ((kidH t k.pred ++ kidsAll ts ks) ++ S)))
      refine G3.perm ?_
      have p1 : (kidsAll ts ks ++ ((t.root, .fin 0) :: (kidH t k.pred ++ S))).Perm ((t.root, .fin 0) :: ((kidH t k.pred ++ kidsAll ts ks) ++ S)) := by
        refine List.perm_middle.trans (List.Perm.cons _ ?_)
        rw [← List.append_assoc]
        exact List.perm_append_comm.append_right S
      exact (List.Perm.append_left _ p1).trans List.perm_middle
  | [], _ :: _, _, _, l, _, _, _ => by simp at l
  | _ :: _, [], _, _, l, _, _, _ => by simp at l
  | [], [], _ :: _, _, _, l, _, _ => by simp at l
  | _ :: _, _ :: _, [], _, _, l, _, _ => by simp at l
theorem mem_kidsAll : ∀ {ts : List T} {ks : List Dp} {p : T × Dp}, p ∈ kidsAll ts ks → ∃ t ∈ ts, p.1 ∈ t.kids
  | [], ks, p, h => by cases ks <;> cases h
  | t :: ts, [], p, h => by cases h
  | t :: ts, k :: ks, p, h => by
    rcases List.mem_append.mp (show p ∈ kidH t k.pred ++ kidsAll ts ks from h) with h | h
    · obtain ⟨x, hx, rfl⟩ := List.mem_map.mp h
      exact ⟨t, List.mem_cons_self, hx⟩
    · obtain ⟨u, hu, hx⟩ := mem_kidsAll h
      exact ⟨u, List.mem_cons_of_mem _ hu, hx⟩
theorem hLa_cons2 (t u : T) (k l : Dp) (hs : Hold) : hLa ((t, k) :: (u, l) :: hs) = T.la t ++ (T.la u ++ hLa hs) := rfl
/-- things without lists may be added, one at each place -/
theorem Good.add0 {ws : List IW} (G : Good K H0 IO SR H S) (h : ∀ w ∈ ws, ∀ p ∈ w.hold, T.la p.1 = [] ∧ T.ok K H p.1) : Good K H0 IO SR H (ws.flatMap IW.hold ++ S) := by
  induction ws with
  | nil => exact G
  | cons w ws ih =>
    rw [List.flatMap_cons, List.append_assoc]
    have G1 := ih fun w hw => h w (List.mem_cons_of_mem _ hw)
    have hw := h w List.mem_cons_self
    cases w with
    | one t k => exact G1.plain (hw _ (List.mem_singleton.mpr rfl)).2 (hw _ (List.mem_singleton.mpr rfl)).1
    | two t u k l => exact Good.plain (Good.plain G1 (hw (u, l) (List.mem_cons_of_mem _ (List.mem_singleton.mpr rfl))).2 (hw (u, l) (List.mem_cons_of_mem _ (List.mem_singleton.mpr rfl))).1) (hw (t, k) List.mem_cons_self).2 (hw (t, k) List.mem_cons_self).1
theorem ones_hold (us : List T) (k : Dp) : (us.map fun x => IW.one x k).flatMap IW.hold = us.map fun x => (x, k) := by
  induction us with
  | nil => rfl
  | cons u us ih => rw [List.map_cons, List.flatMap_cons, ih]; rfl
theorem zip_hold {k l : Dp} : ∀ {us ws : List T} {S : Hold}, Good K H0 IO SR H ((us.map fun x => (x, k)) ++ ((ws.map fun x => (x, l)) ++ S)) → Good K H0 IO SR H (((us.zip ws).map fun p => IW.two p.1 p.2 k l).flatMap IW.hold ++ S)
  | [], ws, S, G => by
    have G' : Good K H0 IO SR H ((ws.map fun x => (x, l)) ++ S) := G
    simpa using G'.dropL
  | u :: us, [], S, G => by
    have G' : Good K H0 IO SR H (((u :: us).map fun x => (x, k)) ++ S) := G
    simpa using G'.dropL
  | u :: us, w :: ws, S, G => by
    have G1 : Good K H0 IO SR H ((us.map fun x => (x, k)) ++ ((ws.map fun x => (x, l)) ++ ((u, k) :: (w, l) :: S))) := by
      refine G.perm ?_
      show ((u, k) :: ((us.map fun x => (x, k)) ++ ((w, l) :: ((ws.map fun x => (x, l)) ++ S)))).Perm _
      have p1 : ((ws.map fun x => (x, l)) ++ ((u, k) :: (w, l) :: S)).Perm ((u, k) :: (w, l) :: ((ws.map fun x => (x, l)) ++ S)) := by
        refine List.perm_middle.trans (List.Perm.cons _ List.perm_middle)
      have p2 := List.Perm.append_left (us.map fun x => (x, k)) p1
      refine List.Perm.trans ?_ p2.symm
      exact List.perm_middle.symm
    have G2 := zip_hold (us := us) (ws := ws) G1
    rw [List.zip_cons_cons, List.map_cons, List.flatMap_cons]
    refine G2.perm ?_
    show (_ ++ ((u, k) :: (w, l) :: S)).Perm ((u, k) :: (w, l) :: (_ ++ S))
    exact List.perm_middle.trans (List.Perm.cons _ List.perm_middle)
theorem enum_hold {k : Dp} {S : Hold} : ∀ {us : List T} {m : Nat}, Good K H0 IO SR H ((us.map fun x => (x, k)) ++ S) → Good K H0 IO SR H (((us.zipIdx m).map fun p => IW.two (.int (p.2 : Nat)) p.1 .om k).flatMap IW.hold ++ S)
  | [], m, G => G
  | u :: us, m, G => by
    have G1 : Good K H0 IO SR H ((us.map fun x => (x, k)) ++ ((u, k) :: S)) := G.perm List.perm_middle.symm
    have G2 := (enum_hold' (m := m + 1) G1)
    rw [List.zipIdx_cons, List.map_cons, List.flatMap_cons]
    show Good K H0 IO SR H ((T.int _, .om) :: (u, k) :: (_ ++ S))
    exact Good.plain (G2.perm List.perm_middle) (by simp [T.ok]) (by simp [T.la])
where
  enum_hold' {k : Dp} {S : Hold} : ∀ {us : List T} {m : Nat}, Good K H0 IO SR H ((us.map fun x => (x, k)) ++ S) → Good K H0 IO SR H (((us.zipIdx m).map fun p => IW.two (.int (p.2 : Nat)) p.1 .om k).flatMap IW.hold ++ S)
  | [], m, G => G
  | u :: us, m, G => by
    have G1 : Good K H0 IO SR H ((us.map fun x => (x, k)) ++ ((u, k) :: S)) := G.perm List.perm_middle.symm
    have G2 := (enum_hold' (m := m + 1) G1)
    rw [List.zipIdx_cons, List.map_cons, List.flatMap_cons]
    show Good K H0 IO SR H ((T.int _, .om) :: (u, k) :: (_ ++ S))
    exact Good.plain (G2.perm List.perm_middle) (by simp [T.ok]) (by simp [T.la])
theorem Good.items {kk : ItK} {ts : List T} {ks : List Dp} (G : Good K H0 IO SR H (kidsAll ts ks ++ S)) : Good K H0 IO SR H ((itW kk ts ks).flatMap IW.hold ++ S) := by
  unfold itW
  split
  · rw [ones_hold]; rename_i t k; exact (show Good K H0 IO SR H ((kidH t k.pred ++ []) ++ S) from G).perm (by rw [List.append_nil]; exact .refl _)
  · rw [ones_hold]; rename_i t k; exact (show Good K H0 IO SR H ((kidH t k.pred ++ []) ++ S) from G).perm (by rw [List.append_nil]; exact .refl _)
  · rename_i t k
    rw [← List.map_reverse, ones_hold]
    refine (show Good K H0 IO SR H ((kidH t k.pred ++ []) ++ S) from G).perm ?_
    rw [List.append_nil]
    refine List.Perm.append_right S ?_
    exact (List.reverse_perm t.kids).symm.map _
  · refine Good.add0 G.dropL fun w hw p hp => ?_
    obtain ⟨i, _, rfl⟩ := List.mem_map.mp hw
    rw [List.mem_singleton.mp hp]; exact ⟨by simp [T.la], by simp [T.ok]⟩
  · refine Good.add0 G.dropL fun w hw p hp => ?_
    obtain ⟨i, _, rfl⟩ := List.mem_map.mp hw
    rw [List.mem_singleton.mp hp]; exact ⟨by simp [T.la], by simp [T.ok]⟩
  · refine Good.add0 G.dropL fun w hw p hp => ?_
    obtain ⟨i, _, rfl⟩ := List.mem_map.mp hw
    rw [List.mem_singleton.mp hp]; exact ⟨by simp [T.la], by simp [T.ok]⟩
  · rename_i t k
    exact enum_hold ((show Good K H0 IO SR H ((kidH t k.pred ++ []) ++ S) from G).perm (by rw [List.append_nil]; exact .refl _))
  · rename_i t u k l
    exact zip_hold ((show Good K H0 IO SR H ((kidH t k.pred ++ (kidH u l.pred ++ [])) ++ S) from G).perm (by rw [List.append_nil, List.append_assoc]; exact .refl _))
  · refine Good.add0 G.dropL fun w hw p hp => ?_
    obtain ⟨i, _, rfl⟩ := List.mem_map.mp hw
    rw [List.mem_singleton.mp hp]; exact ⟨by simp [T.la], by simp [T.ok]⟩
  · exact G.dropL
/-- the things walked can be read: from their hold, or from their slots -/
theorem roots_ok : ∀ {es : List E} {ts : List T}, es.length = ts.length → (∀ p ∈ rtHold es ts, T.ok K H p.1) → (∀ (j i : Nat) (t : T), es[j]? = some (E.vin i) → ts[j]? = some t → T.ok K H t) → ∀ t ∈ ts, T.ok K H t.root
  | [], [], _, _, _, t, h => nomatch h
  | e :: es, t :: ts, l, h1, h2, u, hu => by
    by_cases hv : isVin e = true
    · cases e <;> first | (simp [isVin] at hv; done) | skip
      rename_i i
      rcases List.mem_cons.mp hu with e | hu
      · rw [e]; exact root_ok (h2 0 i t rfl rfl)
      · exact roots_ok (es := es) (ts := ts) (by simpa using l) h1 (fun j i t a b => h2 (j + 1) i t a b) u hu
    · rw [rtHold_not (by simpa using hv)] at h1
      rcases List.mem_cons.mp hu with e | hu
      · rw [e]; exact h1 (t.root, .fin 0) List.mem_cons_self
      · exact roots_ok (es := es) (ts := ts) (by simpa using l) (fun p hp => h1 p (List.mem_cons_of_mem _ hp)) (fun j i t a b => h2 (j + 1) i t a b) u hu
  | [], _ :: _, l, _, _, _, _ => by simp at l
  | _ :: _, [], l, _, _, _, _ => by simp at l
end
end OH

namespace OH
open PySem PySem.Spec PyProof.Rows L2
structure OpS (es : List E) (ts : List T) (ks : List Dp) (g : Gam) (τ : Tau) : Prop where
  l1 : es.length = ts.length
  l2 : ks.length = ts.length
  vk : ∀ (j i : Nat) (k : OH.Dp), es[j]? = some (E.vin i) → ks[j]? = some k → k = OH.Dp.fin 0
  vok : ∀ (j i : Nat), es[j]? = some (E.vin i) → ts[j]? = oD τ i ∧ (gD g i).isSome = true
section
variable (cl : Calls) (sg : Nat → Sig) (H0 : Hp) (IO SR : List Addr)
def EvP (e : E) : Prop := ∀ (c : TC) (n : Nat) (ρ : REnv) (g : Gam) (τ : Tau) (σ : L2.St) (H : Hp) (d : D) (ρ' : REnv) (k : OH.Dp) (g' : Gam) (R : Hold) (Q : VK), CallOk cl sg c → ty sg e g = some (k, g') → ev cl e ρ = some (d, ρ') → Rel n ρ g τ σ → Good c.K H0 IO SR H (slots g τ ++ R) →
  (∀ τ' t H', Rel n ρ' g' τ' σ → Good c.K H0 IO SR H' ((t, k) :: (slots g' τ' ++ R)) → t.dat = d → (∀ i, i ∉ muts e → oD τ' i = oD τ i) → Q t.val H') → tE c e σ H Q
def EvoP (es : List E) : Prop := ∀ (c : TC) (n : Nat) (ρ : REnv) (g : Gam) (τ : Tau) (σ : L2.St) (H : Hp) (ds : List D) (ρ' : REnv) (ks : List OH.Dp) (g' : Gam) (R : Hold) (Q : List V → Hp → Prop), CallOk cl sg c → tyo sg es g = some (ks, g') → evs cl es ρ = some (ds, ρ') → Rel n ρ g τ σ → Good c.K H0 IO SR H (slots g τ ++ R) →
  (∀ τ' ts H', Rel n ρ' g' τ' σ → Good c.K H0 IO SR H' (opHold es ts ks ++ (slots g' τ' ++ R)) → T.dats ts = ds → OpS es ts ks g' τ' → (∀ i, i ∉ mutsL es → oD τ' i = oD τ i) → Q (vals ts) H') → seqT (tEl c es) σ H Q
def EvcP (cs : List E) : Prop := ∀ (c : TC) (n : Nat) (ρ : REnv) (g : Gam) (τ : Tau) (σ : L2.St) (H : Hp) (b : Bool) (ρ' : REnv) (g' : Gam) (R : Hold) (Q : Bool → Hp → Prop), CallOk cl sg c → tyc sg cs g = some g' → evc cl cs ρ = some (b, ρ') → Rel n ρ g τ σ → Good c.K H0 IO SR H (slots g τ ++ R) →
  (∀ τ' H', Rel n ρ' g' τ' σ → Good c.K H0 IO SR H' (slots g' τ' ++ R) → (∀ i, i ∉ mutsL cs → oD τ' i = oD τ i) → Q b H') → tCs c cs σ H Q
end
section
variable {cl : Calls} {sg : Nat → Sig} {H0 : Hp} {IO SR : List Addr}
variable {K : PySem.W.Frag} {H H' : Hp} {R : Hold} {g g' : Gam} {τ τ' : Tau} {t : T} {k : Dp} {n : Nat} {ρ : REnv} {σ σ' : L2.St}
theorem take_put {i : Nat} {k' : Dp} (G : Good K H0 IO SR H ((t, k') :: (slots (g.set i none) τ ++ R))) (h : oD τ i = some t) : Good K H0 IO SR H (slots (g.set i (some k')) τ ++ R) := by
  have q := G.put (i := i)
  rw [List.set_set, set_self h] at q
  exact q
theorem Rel.sig (r : Rel n ρ g τ σ) (l : σ'.length = n) (h : ∀ i k, gD g i = some k → σ'[i]? = σ[i]?) : Rel n ρ g τ σ' :=
  ⟨r.lρ, r.lτ, l, fun i k hi e => by
    obtain ⟨t, h1, h2, h3⟩ := r.at_ i k hi e
    exact ⟨t, h1, h2, by rw [h i k e]; exact h3⟩⟩
theorem wipe_get {σ : L2.St} {i : Nat} : ∀ {vs : List Nat}, (wipe σ vs)[i]? = if i ∈ vs then (σ[i]?).map (fun _ => none) else σ[i]?
  | [] => by simp [wipe]
  | v :: vs => by
    unfold wipe
    rw [List.getElem?_set, wipe_length, wipe_get (vs := vs)]
    by_cases e : v = i
    · subst e
      rw [if_pos rfl, if_pos List.mem_cons_self]
      by_cases l : v < σ.length
      · rw [if_pos l, List.getElem?_eq_getElem l]; rfl
      · rw [if_neg l, List.getElem?_eq_none (by omega)]; rfl
    · rw [if_neg e]
      by_cases m : i ∈ vs
      · rw [if_pos m, if_pos (List.mem_cons_of_mem _ m)]
      · rw [if_neg m, if_neg]
        intro z
        rcases List.mem_cons.mp z with z | z
        · exact e z.symm
        · exact m z
theorem wipe_ext {σ σ' : L2.St} {vs : List Nat} (l : σ'.length = σ.length) (h : ∀ i, i ∉ vs → σ'[i]? = (wipe σ vs)[i]?) : wipe σ' vs = wipe σ vs := by
  refine List.ext_getElem? fun i => ?_
  rw [wipe_get (σ := σ')]
  by_cases m : i ∈ vs
  · rw [if_pos m, wipe_get, if_pos m]
    by_cases c : i < σ.length
    · rw [List.getElem?_eq_getElem c, List.getElem?_eq_getElem (by omega)]; rfl
    · rw [List.getElem?_eq_none (by omega), List.getElem?_eq_none (by omega)]
  · rw [if_neg m]; exact h i m
theorem Rel.wipe {σb : L2.St} {gh : Gam} {own : List Nat} (r : Rel n ρ g τ σb) (h : GLe gh (killG g own)) (l : σ.length = n) (hσ : ∀ i, i ∉ own → σb[i]? = (L2.wipe σ own)[i]?) : Rel n (wipeD ρ own) gh τ (L2.wipe σ own) := by
  refine ⟨by rw [wipeD_len]; exact r.lρ, r.lτ, by rw [wipe_length]; exact l, fun i k hi e => ?_⟩
  obtain ⟨k', e', _⟩ := h.some e
  rw [gD_kill] at e'
  split at e'
  · cases e'
  · rename_i m
    obtain ⟨t, h1, h2, h3⟩ := r.at_ i k' hi e'
    refine ⟨t, h1, ?_, by rw [← hσ i m]; exact h3⟩
    rw [getD_wipe, if_neg m]; exact h2
theorem tyo_not {e : E} {es : List E} {g : Gam} (h : isVin e = false) : tyo sg (e :: es) g = (ty sg e g).bind fun (k, g1) => (tyo sg es g1).map fun (ks, g2) => (k :: ks, g2) := by
  cases e <;> first | rfl | (simp [isVin] at h)
/-- one operand -/
theorem evo_step {e : E} {es : List E} {c : TC} {d : D} {ρ1 : REnv} {ks : List Dp} {g2 : Gam} {Q : VK} (he : isVin e = false → EvP cl sg H0 IO SR e) (hc : CallOk cl sg c) (ht : tyo sg (e :: es) g = some (ks, g2)) (hv : ev cl e ρ = some (d, ρ1)) (r : Rel n ρ g τ σ) (G : Good c.K H0 IO SR H (slots g τ ++ R))
    (hQ : ∀ τ1 t H1 g1 k1 kr hh, tyo sg es g1 = some (kr, g2) → ks = k1 :: kr → Rel n ρ1 g1 τ1 σ → Good c.K H0 IO SR H1 (slots g1 τ1 ++ (hh ++ R)) → t.dat = d → T.ok c.K H1 t → (∀ i, i ∉ muts e → oD τ1 i = oD τ i) →
      (∀ ts kr', opHold (e :: es) (t :: ts) (k1 :: kr') = hh ++ opHold es ts kr') → (∀ i, e = .vin i → k1 = .fin 0 ∧ oD τ1 i = some t ∧ i ∉ mutsL es ∧ (gD g2 i).isSome = true) → Q t.val H1) : tE c e σ H Q := by
  by_cases hv' : isVin e = true
  · cases e <;> first | (simp [isVin] at hv'; done) | skip
    rename_i i
    simp only [tyo] at ht
    split at ht
    · cases ht
    · rename_i hm
      obtain ⟨k0, e0, ht⟩ := Option.bind_eq_some_iff.mp ht
      obtain ⟨⟨kr, g3⟩, e1, ht⟩ := Option.bind_eq_some_iff.mp ht
      simp only at ht
      split at ht <;> cases ht
      rename_i alive
      simp only [ev, Option.map_eq_some_iff] at hv
      obtain ⟨d', ed, hv⟩ := hv
      cases hv
      have hi : i < n := by rw [← r.lρ]; exact oD_lt ed
      obtain ⟨t, h1, h2, h3⟩ := r.at_ i k0 hi e0
      have ed' : d = t.dat := Option.some.inj (ed.symm.trans h2)
      have G1 := (G.take e0 h1).vin
      refine ⟨t.val, h3, ?_⟩
      have G2 : Good c.K H0 IO SR H (slots (g.set i (some (k0.mn (.fin 1)))) τ ++ (kidH t (.fin 0) ++ R)) := by
        have q : Good c.K H0 IO SR H ((t, k0.mn (.fin 1)) :: (slots (g.set i none) τ ++ (kidH t (.fin 0) ++ R))) := by
          refine G1.perm (List.perm_middle.trans (List.Perm.cons _ ?_))
          rw [← List.append_assoc, ← List.append_assoc]
          exact List.perm_append_comm.append_right R
        exact take_put q h1
      refine hQ τ t H _ (.fin 0) kr (kidH t (.fin 0)) e1 rfl (r.dom fun j k e => ?_) G2 ed'.symm ((G.take e0 h1).ok _ List.mem_cons_self) (fun _ _ => rfl) (fun ts kr' => rfl) fun j e => ?_
      · by_cases c : i = j
        · subst c; exact ⟨_, e0⟩
        · rw [show gD (g.set i _) j = gD g j from oD_set_ne c] at e
          exact ⟨_, e⟩
      · cases e
        exact ⟨rfl, h1, hm, alive⟩
  · have hv2 : isVin e = false := by simpa using hv'
    rw [tyo_not hv2] at ht
    obtain ⟨⟨k1, g1⟩, e1, ht⟩ := Option.bind_eq_some_iff.mp ht
    simp only [Option.map_eq_some_iff] at ht
    obtain ⟨⟨kr, g3⟩, e2, ht⟩ := ht
    cases ht
    refine he hv2 c n ρ g τ σ H d ρ1 k1 g1 R Q hc e1 hv r G fun τ1 t H1 r1 G1 ed fr => ?_
    refine hQ τ1 t H1 g1 k1 kr [(t, k1)] e2 rfl r1 G1.inR1 ed (G1.ok _ List.mem_cons_self) fr (fun ts kr' => opHold_not hv2) fun i e => ?_
    rw [e] at hv2; simp [isVin] at hv2
theorem evo_nil : EvoP cl sg H0 IO SR [] := by
  intro c n ρ g τ σ H ds ρ' ks g' R Q hc ht hv r G hQ
  simp only [tyo, Option.some.injEq, Prod.mk.injEq] at ht
  simp only [evs, Option.some.injEq, Prod.mk.injEq] at hv
  obtain ⟨rfl, rfl⟩ := ht
  obtain ⟨rfl, rfl⟩ := hv
  exact hQ τ [] H r G rfl ⟨rfl, rfl, fun j i k h => by simp at h, fun j i h => by simp at h⟩ fun _ _ => rfl
theorem evo_cons {e : E} {es : List E} (he : isVin e = false → EvP cl sg H0 IO SR e) (hes : EvoP cl sg H0 IO SR es) : EvoP cl sg H0 IO SR (e :: es) := by
  intro c n ρ g τ σ H ds ρ' ks g' R Q hc ht hv r G hQ
  simp only [evs] at hv
  obtain ⟨⟨d, ρ1⟩, hv1, hv⟩ := Option.bind_eq_some_iff.mp hv
  simp only [Option.map_eq_some_iff] at hv
  obtain ⟨⟨dr, ρ2⟩, hv2, hv⟩ := hv
  cases hv
  show tE c e σ H fun x H1 => seqT (tEl c es) σ H1 fun vs H2 => Q (x :: vs) H2
  refine evo_step he hc ht hv1 r G fun τ1 t H1 g1 k1 kr hh e1 ek r1 G1 ed ok fr hop hvin => ?_
  subst ek
  refine hes c n ρ1 g1 τ1 σ H1 dr _ kr g' (hh ++ R) _ hc e1 hv2 r1 G1 fun τ2 ts H2 r2 G2 eds os fr2 => ?_
  refine hQ τ2 (t :: ts) H2 r2 ?_ (by unfold T.dats; rw [ed, eds]) ⟨by simp [os.l1], by simp [os.l2], fun j i k h1 h2 => ?_, fun j i h1 => ?_⟩ fun i hi => ?_
  · rw [hop]
    refine G2.perm ?_
    have p : (opHold es ts kr ++ (slots g' τ2 ++ (hh ++ R))).Perm (hh ++ (opHold es ts kr ++ (slots g' τ2 ++ R))) := by
      have q1 : (slots g' τ2 ++ (hh ++ R)).Perm (hh ++ (slots g' τ2 ++ R)) := by
        rw [← List.append_assoc, ← List.append_assoc]
        exact List.perm_append_comm.append_right R
      refine (List.Perm.append_left _ q1).trans ?_
      rw [← List.append_assoc, ← List.append_assoc (as := hh)]
      exact List.perm_append_comm.append_right _
    rw [List.append_assoc]
    exact p
  · cases j with
    | zero =>
      simp only [List.getElem?_cons_zero, Option.some.injEq] at h1 h2
      rw [← h2]; exact (hvin i h1).1
    | succ j => exact os.vk j i k (by simpa using h1) (by simpa using h2)
  · cases j with
    | zero =>
      simp only [List.getElem?_cons_zero, Option.some.injEq] at h1
      obtain ⟨_, h3, h4, h5⟩ := hvin i h1
      exact ⟨by rw [fr2 i h4]; exact h3.symm, h5⟩
    | succ j =>
      have := os.vok j i (by simpa using h1)
      exact ⟨by simpa using this.1, this.2⟩
  · have hi' : i ∉ muts e ∧ i ∉ mutsL es := by
      unfold mutsL at hi
      exact ⟨fun z => hi (List.mem_append_left _ z), fun z => hi (List.mem_append_right _ z)⟩
    rw [fr2 i hi'.2, fr i hi'.1]
theorem OpS.src {es : List E} {ts : List T} {ks : List Dp} {S : Hold} (o : OpS es ts ks g τ) (G : Good K H0 IO SR H (opHold es ts ks ++ S)) (hs : ∀ (i : Nat) (t : T), (gD g i).isSome = true → oD τ i = some t → T.ok K H t) : Src K H (opHold es ts ks) ts ks :=
  src_of o.l1 o.l2 (fun p hp => G.ok p (List.mem_append_left _ hp)) (fun j i t h1 h2 => by
    obtain ⟨h3, h4⟩ := o.vok j i h1
    exact hs i t h4 (by rw [← h3]; exact h2)) o.vk
theorem slots_ok {S : Hold} (G : Good K H0 IO SR H (S ++ (slots g τ ++ R))) {i : Nat} {t : T} (h : (gD g i).isSome = true) (h2 : oD τ i = some t) : T.ok K H t := by
  obtain ⟨k, e⟩ := Option.isSome_iff_exists.mp h
  exact G.ok (t, k) (List.mem_append_right _ (List.mem_append_left _ (mem_slots.mpr ⟨i, oD_lt h2, e, h2⟩)))
end
end OH

namespace OH
open PySem PySem.Spec PyProof.Rows L2
section
variable {cl : Calls} {sg : Nat → Sig} {H0 : Hp} {IO SR : List Addr}
theorem ty_comp {t : Tg} {own : List Nat} {kk : ItK} {es cs : List E} {e : E} {g g' : Gam} {k : Dp} (h : ty sg (.comp t own kk es cs e) g = some (k, g')) :
    ∃ ks g1 ps ga' k' gb' gh, tyo sg es g = some (ks, g1) ∧ tgDp t kk ks = some ps ∧ (∀ i ∈ vinsOf es, i ∉ mutsL cs ++ muts e) ∧ (∀ i ∈ tgs t, i ∈ own) ∧ GLe gh (killG g1 own) ∧ tyc sg cs (putG gh ps) = some ga' ∧ ty sg e ga' = some (k', gb') ∧
      GLe gh (killG gb' own) ∧ GLe gh (killG ga' own) ∧ (∀ i ∈ vinsOf es, (gD gh i).isSome = true) ∧ ((k'.succ = .om ∧ mutsL es ++ mutsL cs ++ muts e = [] ∧ k = .om ∧ g' = killG (back g gh) own) ∨ (k = k'.succ ∧ g' = gh)) := by
  simp only [ty] at h
  obtain ⟨⟨ks, g1⟩, h1, h⟩ := Option.bind_eq_some_iff.mp h
  obtain ⟨ps, h2, h⟩ := Option.bind_eq_some_iff.mp h
  simp only at h
  split at h
  · cases h
  rename_i c
  simp only [Bool.or_eq_true, not_or, Bool.not_eq_true, Bool.not_eq_false'] at c
  obtain ⟨ga, h3, h⟩ := Option.bind_eq_some_iff.mp h
  obtain ⟨⟨k0, gb⟩, h4, h⟩ := Option.bind_eq_some_iff.mp h
  simp only at h
  obtain ⟨ga', h5, h⟩ := Option.bind_eq_some_iff.mp h
  obtain ⟨⟨k', gb'⟩, h6, h⟩ := Option.bind_eq_some_iff.mp h
  simp only at h
  split at h
  · rename_i c2
    simp only [Bool.and_eq_true] at c2
    refine ⟨ks, g1, ps, ga', k', gb', _, h1, h2, fun i hi z => ?_, fun i hi => ?_, meet_l _ _, h5, h6, leG_ok c2.1.1, leG_ok c2.1.2, fun i hi => List.all_eq_true.mp c2.2 i hi, ?_⟩
    · have := List.any_eq_false.mp c.1 i hi
      exact this (by simpa using z)
    · have := List.all_eq_true.mp c.2 i hi
      simpa using this
    · split at h
      · rename_i c3
        cases h
        exact .inl ⟨c3.1, c3.2, rfl, rfl⟩
      · cases h
        exact .inr ⟨rfl, rfl⟩
  · cases h
theorem perm3 {α : Type} (a b c : List α) : (a ++ (b ++ c)).Perm (b ++ (a ++ c)) := by
  rw [← List.append_assoc, ← List.append_assoc]
  exact List.perm_append_comm.append_right c
theorem mem_vins : ∀ {es : List E} {j i : Nat}, es[j]? = some (E.vin i) → i ∈ vinsOf es
  | e :: es, 0, i, h => by
    simp only [List.getElem?_cons_zero, Option.some.injEq] at h
    subst h; exact List.mem_cons_self
  | e :: es, j + 1, i, h => by
    have := mem_vins (es := es) (j := j) (by simpa using h)
    cases e <;> first | exact this | exact List.mem_cons_of_mem _ this
def mixT (own : List Nat) (τ τi : Tau) : Tau := (List.range τi.length).map fun j => if j ∈ own then oD τ j else oD τi j
theorem mixT_len {own : List Nat} {τ τi : Tau} : (mixT own τ τi).length = τi.length := by unfold mixT; rw [List.length_map, List.length_range]
theorem mixT_get {own : List Nat} {τ τi : Tau} (l : τ.length = τi.length) {j : Nat} : oD (mixT own τ τi) j = if j ∈ own then oD τ j else oD τi j := by
  by_cases c : j < τi.length
  · unfold mixT oD
    rw [List.getElem?_map, List.getElem?_range c]; rfl
  · rw [oD_out (by rw [mixT_len]; omega)]
    split
    · exact (oD_out (by omega)).symm
    · exact (oD_out (by omega)).symm
theorem comp_ok {t : Tg} {own : List Nat} {kk : ItK} {es cs : List E} {e : E} (hz : kk ≠ .zip true) (hE : EvoP cl sg H0 IO SR es) (hC : EvcP cl sg H0 IO SR cs) (hB : EvP cl sg H0 IO SR e) : EvP cl sg H0 IO SR (.comp t own kk es cs e) := by
  intro c n ρ g τ σ H d ρ' k g' R Q hc ht hv r G hQ
  obtain ⟨ks, g1, ps, ga', k', gb', gh, h1, h2, h3, h4, h5, h6, h7, h8, h9, h10, h11⟩ := ty_comp ht
  simp only [ev] at hv
  obtain ⟨⟨ds, ρ1⟩, hv1, hv⟩ := Option.bind_eq_some_iff.mp hv
  obtain ⟨items, hv2, hv⟩ := Option.bind_eq_some_iff.mp hv
  simp only [Option.map_eq_some_iff] at hv
  obtain ⟨⟨out, ρ2⟩, hv3, hv⟩ := hv
  cases hv
  show tIt c.K kk (tEl c es) σ H _
  have ar := itD_ar hv2
  have elen : ∀ {es : List E} {ρ ρ1 : REnv} {ds : List D}, evs cl es ρ = some (ds, ρ1) → es.length = ds.length := by
    intro es
    induction es with
    | nil => intro ρ ρ1 ds h; simp only [evs, Option.some.injEq, Prod.mk.injEq] at h; obtain ⟨rfl, _⟩ := h; rfl
    | cons e es ih =>
      intro ρ ρ1 ds h
      simp only [evs] at h
      obtain ⟨⟨d, ρ2⟩, h1, h⟩ := Option.bind_eq_some_iff.mp h
      simp only [Option.map_eq_some_iff] at h
      obtain ⟨⟨dr, ρ3⟩, h2, h⟩ := h
      cases h
      rw [List.length_cons, List.length_cons, ih h2]
  have tlen : ∀ es : List E, (tEl c es).length = es.length := by
    intro es
    induction es with
    | nil => rfl
    | cons e es ih => unfold tEl; rw [List.length_cons, List.length_cons, ih]
  refine tIt_of (by rw [tlen, elen hv1, ar]) hz ?_
  refine hE c n ρ g τ σ H ds ρ1 ks g1 R _ hc h1 hv1 r G fun τ1 ts H1 r1 G1 eds os fr1 => ?_
  subst eds
  have ew := itW_dat os.l2 hv2
  have hwd := itW_dp (k := kk) os.l2
  have sl1 : ∀ (i : Nat) (t : T), (gD g1 i).isSome = true → oD τ1 i = some t → T.ok c.K H1 t := fun i t a b => slots_ok G1 a b
  have vt : ∀ (j i : Nat) (t : T), es[j]? = some (E.vin i) → ts[j]? = some t → oD τ1 i = some t := fun j i t a b => by
    rw [← (os.vok j i a).1]; exact b
  refine rIt_ok os.l2 hv2 hz (roots_ok os.l1 (fun p hp => ?_) fun j i t a b => sl1 i t (os.vok j i a).2 (vt j i t a b)) fun J WJ D hD => ?_
  · exact (Good.apart os.l1 os.l2 os.vk G1).ok p (List.mem_append_left _ hp)
  generalize hws : itW kk ts ks = ws at WJ ew hwd
  -- the state at a turn
  let P : Nat → Hp → Prop := fun i H => ∃ (ρi : REnv) (τi : Tau) (acc : List T), Rel n (wipeD ρi own) gh τi (wipe σ own) ∧
    Good c.K H0 IO SR H (slots gh τi ++ ((.lst D acc, k'.succ) :: ((ws.drop i).flatMap IW.hold ++ (rtHold es ts ++ R)))) ∧
    compD (fun d r => (bindT t d r).bind fun r1 => (evc cl cs r1).bind fun (b, r2) => if b then (ev cl e r2).map fun (y, r3) => (some y, r3) else some (none, r2)) own (items.drop i) ρi (T.dats acc) = some (out, ρ2) ∧
    (∀ j, j ∉ mutsL cs ++ muts e → j ∉ own → oD τi j = oD τ1 j)
  have alive : ∀ i k, gD gh i = some k → i ∉ own ∧ ∃ k', gD g1 i = some k' := fun i k e => by
    obtain ⟨k', e', _⟩ := h5.some e
    rw [gD_kill] at e'
    split at e'
    · cases e'
    · rename_i m; exact ⟨m, k', e'⟩
  refine ⟨fun i m H => m = ws.length - i ∧ i ≤ ws.length ∧ P i H, ⟨ws.length, by simp, Nat.zero_le _, ρ1, τ1, [], ?_, ?_, ?_, fun _ _ _ => rfl⟩, ?_⟩
  · refine Rel.wipe r1 h5 r.lσ fun i hi => ?_
    rw [wipe_get, if_neg hi]
  · have G2 := Good.apart os.l1 os.l2 os.vk G1
    have G3 : Good c.K H0 IO SR H1 (kidsAll ts ks ++ (rtHold es ts ++ (slots g1 τ1 ++ R))) := by
      exact G2.perm (perm3 ..)
    have G4 : Good c.K H0 IO SR H1 (ws.flatMap IW.hold ++ (rtHold es ts ++ (slots g1 τ1 ++ R))) := by
      rw [← hws]; exact G3.items
    have G5 : Good c.K H0 IO SR H1 (slots g1 τ1 ++ (ws.flatMap IW.hold ++ (rtHold es ts ++ R))) := by
      refine G4.perm ?_
      refine (List.Perm.append_left _ (?_ : (rtHold es ts ++ (slots g1 τ1 ++ R)).Perm (slots g1 τ1 ++ (rtHold es ts ++ R)))).trans ?_
      · rw [← List.append_assoc, ← List.append_assoc]
        exact List.perm_append_comm.append_right _
      · rw [← List.append_assoc, ← List.append_assoc (as := slots g1 τ1)]
        exact List.perm_append_comm.append_right _
    have G6 := G5.weakS (g' := gh) (fun i => leO_trans (h5 i) (kill_le g1 own i))
    have G7 := Good.newL (old := []) (k := k') (ts := []) G6 hD (fun t h => nomatch h) (fun a m => by simp [T.owns] at m) (fun a => by simp [T.las])
    exact G7.inR1
  · rw [List.drop_zero]; exact hv3
  · rintro i m Hi ⟨rfl, hi, ρi, τi, acc, ri, Gi, ci, fi⟩
    have C : ∀ t ∈ ts, T.ok c.K Hi t.root := by
      refine roots_ok os.l1 (fun p hp => Gi.ok p ?_) fun j s t a b => ?_
      · exact List.mem_append_right _ (List.mem_cons_of_mem _ (List.mem_append_right _ (List.mem_append_left _ hp)))
      · have hm := mem_vins a
        have al := h10 s hm
        obtain ⟨k0, e0⟩ := Option.isSome_iff_exists.mp al
        have hs := fi s (h3 s hm) (alive s k0 e0).1
        exact Gi.ok (t, k0) (List.mem_append_left _ (mem_slots.mpr ⟨s, oD_lt (hs.trans (vt j s t a b)), e0, hs.trans (vt j s t a b)⟩))
    by_cases hlt : i < ws.length
    · refine .inr ⟨WJ.go i Hi C hlt, P (i + 1), fun H' p' => ⟨ws.length - (i + 1), by omega, rfl, hlt, p'⟩, fun x H' y => ?_⟩
      have ewi : ws[i]? = some ws[i] := List.getElem?_eq_getElem hlt
      have yy := WJ.yld i Hi x H' _ C ewi y
      have di : ws.drop i = ws[i] :: ws.drop (i + 1) := List.drop_eq_getElem_cons hlt
      have dii : items.drop i = ws[i].dat :: items.drop (i + 1) := by
        rw [ew, ← List.map_drop, di, List.map_cons, List.map_drop]
      rw [dii] at ci
      simp only [compD] at ci
      obtain ⟨⟨y?, ρd⟩, cb, ci⟩ := Option.bind_eq_some_iff.mp ci
      obtain ⟨ρb, cb1, cb⟩ := Option.bind_eq_some_iff.mp cb
      obtain ⟨⟨b, ρc⟩, cb2, cb⟩ := Option.bind_eq_some_iff.mp cb
      have Gb : Good c.K H0 IO SR Hi (ws[i].hold ++ (slots gh τi ++ ((.lst D acc, k'.succ) :: ((ws.drop (i + 1)).flatMap IW.hold ++ (rtHold es ts ++ R))))) := by
        rw [di, List.flatMap_cons] at Gi
        refine Gi.perm ?_
        have p : ((T.lst D acc, k'.succ) :: ((ws[i].hold ++ (ws.drop (i + 1)).flatMap IW.hold) ++ (rtHold es ts ++ R))).Perm (ws[i].hold ++ ((T.lst D acc, k'.succ) :: ((ws.drop (i + 1)).flatMap IW.hold ++ (rtHold es ts ++ R)))) := by
          rw [List.append_assoc]
          exact List.perm_middle.symm
        exact (List.Perm.append_left _ p).trans (perm3 ..)
      refine bind_ok (Q := fun σ2 H2 => wipe σ2 own = wipe σ own ∧ tCs c.inn cs σ2 H2 fun b H3 => if b = true then tE c.inn e σ2 H3 fun y H4 => ∃ acc, H4 D = some (.lst acc) ∧ acc.length < sizeLine ∧ P (i + 1) (upd H4 D (.lst (acc ++ [y]))) else P (i + 1) H3) h2 (hwd _ (List.getElem_mem hlt)) cb1 ri Gb yy fun τb σb rb Gbb fb fσ => ?_
      have hσ : ∀ j, j ∉ own → σb[j]? = (wipe σ own)[j]? := fun j hj => fσ j fun z => hj (h4 j z)
      refine ⟨wipe_ext (by rw [rb.lσ, r.lσ]) hσ, ?_⟩
      refine hC c.inn n ρb (putG gh ps) τb σb H' b ρc ga' _ _ hc h6 cb2 rb Gbb fun τc Hc rc Gc fc => ?_
      cases b with
      | true =>
        rw [if_pos rfl]
        simp only [if_true, Option.map_eq_some_iff] at cb
        obtain ⟨⟨yd, ρe⟩, cb3, cb⟩ := cb
        cases cb
        simp only at ci
        split at ci
        · rename_i hlen
          refine hB c.inn n ρc ga' τc σb Hc yd _ k' gb' _ _ hc h7 cb3 rc Gc fun τe ty He re Ge ety fe => ?_
          subst ety
          have Ge1 : Good c.K H0 IO SR He ((.lst D acc, k'.succ) :: ([(ty, k')] ++ (slots gb' τe ++ ((ws.drop (i + 1)).flatMap IW.hold ++ (rtHold es ts ++ R))))) := by
            refine Ge.perm ?_
            have p : ((ty, k') :: (slots gb' τe ++ ((T.lst D acc, k'.succ) :: ((ws.drop (i + 1)).flatMap IW.hold ++ (rtHold es ts ++ R))))).Perm ((ty, k') :: ((T.lst D acc, k'.succ) :: (slots gb' τe ++ ((ws.drop (i + 1)).flatMap IW.hold ++ (rtHold es ts ++ R))))) := List.Perm.cons _ List.perm_middle
            exact p.trans (List.Perm.swap ..)
          have oD' := Ge1.ok _ List.mem_cons_self
          unfold T.ok at oD'
          refine ⟨vals acc, oD'.1, by rw [lim_eq]; rw [dats_len] at hlen; simpa using hlen, ρe, τe, acc ++ [ty], ?_, ?_, ?_, fun j hj hjo => ?_⟩
          · exact Rel.wipe re h8 r.lσ hσ
          · have Gm := Good.mut (old := [(ty, k')]) (more := []) (ts' := acc ++ [ty]) (j := k'.succ) Ge1 (Dp.succ_pos _) (fun u hu => ?_) (fun p hp => nomatch hp) (fun b hb => ?_) (fun b => ?_)
            · rw [vals_app] at Gm
              have Gm' : Good c.K H0 IO SR (upd He D (.lst (vals acc ++ [ty.val]))) ((.lst D (acc ++ [ty]), k'.succ) :: (slots gb' τe ++ ((ws.drop (i + 1)).flatMap IW.hold ++ (rtHold es ts ++ R)))) := Gm
              exact Gm'.inR1.weakS fun i => leO_trans (h8 i) (kill_le gb' own i)
            · rcases List.mem_append.mp hu with hu | hu
              · exact oks_iff.mp oD'.2 u hu
              · rw [List.mem_singleton.mp hu]
                exact Ge.ok _ List.mem_cons_self
            · rw [Dp.pred_succ] at hb ⊢
              rw [show hOwn ([] : Hold) = [] from rfl, List.append_nil, owns_flat, List.flatMap_append] at hb
              rcases List.mem_append.mp hb with hb | hb
              · exact .inl (by rw [owns_flat]; exact hb)
              · exact .inr (by simpa [hOwn] using hb)
            · rw [las_app, List.count_append]
              simp [hLa, T.las]
          · rw [dats_app]
            exact ci
          · have : j ∉ mutsL cs ∧ j ∉ muts e := ⟨fun z => hj (List.mem_append_left _ z), fun z => hj (List.mem_append_right _ z)⟩
            rw [fe j this.2, fc j this.1, fb j (fun z => hjo (h4 j z)), fi j hj hjo]
        · cases ci
      | false =>
        rw [if_neg (by decide)]
        simp only [Bool.false_eq_true, if_false, Option.some.injEq, Prod.mk.injEq] at cb
        obtain ⟨rfl, rfl⟩ := cb
        refine ⟨ρc, τc, acc, Rel.wipe rc h9 r.lσ hσ, ?_, ci, fun j hj hjo => ?_⟩
        · exact Gc.weakS fun i => leO_trans (h9 i) (kill_le ga' own i)
        · have : j ∉ mutsL cs ∧ j ∉ muts e := ⟨fun z => hj (List.mem_append_left _ z), fun z => hj (List.mem_append_right _ z)⟩
          rw [fc j this.1, fb j (fun z => hjo (h4 j z)), fi j hj hjo]
    · have e : i = ws.length := by omega
      subst e
      refine .inl ⟨WJ.stop Hi C, ?_⟩
      have dn : items.drop ws.length = [] := by rw [ew]; exact List.drop_eq_nil_of_le (by simp)
      rw [dn] at ci
      simp only [compD, Option.some.injEq, Prod.mk.injEq] at ci
      obtain ⟨rfl, rfl⟩ := ci
      have l0 : τ.length = τi.length := r.lτ.trans ri.lτ.symm
      have mx : ∀ i k, gD gh i = some k → oD (mixT own τ τi) i = oD τi i := fun i k e => by
        rw [mixT_get l0, if_neg (alive i k e).1]
      have r3 : Rel n (wipeD ρi own) gh (mixT own τ τi) σ := by
        refine (ri.tau mixT_len mx).sig r.lσ fun i k e => ?_
        rw [wipe_get, if_neg (alive i k e).1]
      have G3 : Good c.K H0 IO SR Hi ((.lst D acc, k'.succ) :: (slots gh (mixT own τ τi) ++ R)) := by
        rw [slots_tau mixT_len mx]
        have q : Good c.K H0 IO SR Hi (((ws.drop ws.length).flatMap IW.hold ++ rtHold es ts) ++ ((.lst D acc, k'.succ) :: (slots gh τi ++ R))) := by
          refine Gi.perm ?_
          refine List.perm_middle.trans ?_
          refine List.Perm.trans (List.Perm.cons _ ?_) List.perm_middle.symm
          rw [← List.append_assoc (as := (ws.drop ws.length).flatMap IW.hold)]
          exact perm3 ..
        exact q.dropL
      have fr : ∀ j, j ∉ muts (.comp t own kk es cs e) → oD (mixT own τ τi) j = oD τ j := fun j hj => by
        rw [mixT_get l0]
        split
        · rfl
        · rename_i m
          have hj' : j ∉ mutsL es ∧ j ∉ mutsL cs ++ muts e := by
            unfold muts at hj
            refine ⟨fun z => hj (List.mem_append_left _ (List.mem_append_left _ z)), fun z => hj ?_⟩
            rcases List.mem_append.mp z with z | z
            · exact List.mem_append_left _ (List.mem_append_right _ z)
            · exact List.mem_append_right _ z
          rw [fi j hj'.2 m, fr1 j hj'.1]
      rcases h11 with ⟨e1, e2, e3, e4⟩ | ⟨e1, e2⟩
      · subst e3; subst e4
        rw [e1] at G3
        have bk : ∀ i k, gD (killG (back g gh) own) i = some k → gD gh i ≠ none ∧ gD g i = some k := fun i k e => by
          rw [gD_kill] at e
          split at e
          · cases e
          · rw [gD_back] at e
            cases eg : gD gh i with
            | none => rw [eg] at e; cases e
            | some k1 => rw [eg] at e; exact ⟨by simp, e⟩
        have G4 := Good.restore (N := [(.lst D acc, .om)]) (g2 := killG (back g gh) own) G G3 (fun p hp => by rw [List.mem_singleton.mp hp]) (mixT_len.trans l0.symm) fun i k hi e => by
          obtain ⟨a1, a2⟩ := bk i k e
          cases eg : gD gh i with
          | none => exact absurd eg a1
          | some k1 =>
            refine ⟨k1, rfl, .inr ⟨a2, fr i ?_⟩⟩
            unfold muts
            rw [e2]; exact List.not_mem_nil
        refine hQ (mixT own τ τi) (.lst D acc) Hi (r3.dom fun i k e => ?_) G4 rfl fr
        obtain ⟨a1, a2⟩ := bk i k e
        cases eg : gD gh i with
        | none => exact absurd eg a1
        | some k1 => exact ⟨k1, rfl⟩
      · subst e1; subst e2
        exact hQ (mixT own τ τi) (.lst D acc) Hi r3 G3 rfl fr
end
end OH

namespace OH
open PySem PySem.Spec PyProof.Rows L2
section
variable {cl : Calls} {sg : Nat → Sig} {H0 : Hp} {IO SR : List Addr}
theorem evs_len0 : ∀ {es : List E} {ρ ρ1 : REnv} {ds : List D}, evs cl es ρ = some (ds, ρ1) → es.length = ds.length
  | [], ρ, ρ1, ds, h => by
    simp only [evs, Option.some.injEq, Prod.mk.injEq] at h
    obtain ⟨rfl, _⟩ := h; rfl
  | e :: es, ρ, ρ1, ds, h => by
    simp only [evs] at h
    obtain ⟨⟨d, ρ2⟩, h1, h⟩ := Option.bind_eq_some_iff.mp h
    simp only [Option.map_eq_some_iff] at h
    obtain ⟨⟨dr, ρ3⟩, h2, h⟩ := h
    cases h
    rw [List.length_cons, List.length_cons, evs_len0 h2]
theorem tEl_len {c : TC} : ∀ es : List E, (tEl c es).length = es.length
  | [] => rfl
  | e :: es => by unfold tEl; rw [List.length_cons, List.length_cons, tEl_len es]
/-- the inner clause's walk, the new list at D within -/
theorem inner_ok {c : TC} {t : Tg} {own : List Nat} {kk : ItK} {es cs : List E} {e : E} {n : Nat} {ρ ρ1 ρ2 : REnv} {g g1 gh ga' gb' : Gam} {ks : List Dp} {ps : List (Nat × Dp)} {k' : Dp} {τ : Tau} {σ : L2.St} {H : Hp} {R : Hold} {D : Addr} {acc0 : List T} {ds items accD : List OH.D} {Nx : Hp → Prop}
    (hz : kk ≠ .zip true) (hE : EvoP cl sg H0 IO SR es) (hC : EvcP cl sg H0 IO SR cs) (hB : EvP cl sg H0 IO SR e) (hc : CallOk cl sg c) (h1 : tyo sg es g = some (ks, g1)) (h2 : tgDp t kk ks = some ps) (h3 : ∀ i ∈ vinsOf es, i ∉ mutsL cs ++ muts e) (h4 : ∀ i ∈ tgs t, i ∈ own) (h5 : GLe gh (killG g1 own))
    (h6 : tyc sg cs (putG gh ps) = some ga') (h7 : ty sg e ga' = some (k', gb')) (h8 : GLe gh (killG gb' own)) (h9 : GLe gh (killG ga' own)) (h10 : ∀ i ∈ vinsOf es, (gD gh i).isSome = true)
    (hv1 : evs cl es ρ = some (ds, ρ1)) (hv2 : itD kk ds = some items) (hv3 : compD (fun d r => (bindT t d r).bind fun r1 => (evc cl cs r1).bind fun (b, r2) => if b then (ev cl e r2).map fun (y, r3) => (some y, r3) else some (none, r2)) own items ρ1 (T.dats acc0) = some (accD, ρ2))
    (r : Rel n ρ g τ σ) (G : Good c.K H0 IO SR H (slots g τ ++ ((.lst D acc0, k'.succ) :: R)))
    (hN : ∀ τf acc H, T.dats acc = accD → Rel n ρ2 gh τf σ → Good c.K H0 IO SR H (slots gh τf ++ ((.lst D acc, k'.succ) :: R)) → (∀ j, j ∉ mutsL es ++ (mutsL cs ++ muts e) → j ∉ own → oD τf j = oD τ j) → Nx H) :
    tIt c.K kk (tEl c es) σ H fun J H1 => ∃ W1 : Nat → Nat → Hp → Prop, (∃ m, W1 0 m H1) ∧ ∀ j k H, W1 j k H → (J.stop j H ∧ Nx H) ∨ (J.go j H ∧ ∃ Nx1 : Hp → Prop, (∀ H', Nx1 H' → ∃ k', k' < k ∧ W1 (j + 1) k' H') ∧ ∀ x H', J.yld j H x H' → tTg c.K t x (wipe σ own) H' fun σ3 H5 => wipe σ3 own = wipe σ own ∧ tCs c cs σ3 H5 fun b H6 =>
      if b = true then tE c e σ3 H6 fun y H7 => ∃ acc, H7 D = some (.lst acc) ∧ acc.length < sizeLine ∧ Nx1 (upd H7 D (.lst (acc ++ [y]))) else Nx1 H6) := by
  have ar := itD_ar hv2
  refine tIt_of (by rw [tEl_len, evs_len0 hv1, ar]) hz ?_
  refine hE c n ρ g τ σ H ds ρ1 ks g1 _ _ hc h1 hv1 r G fun τ1 ts H1 r1 G1 eds os fr1 => ?_
  subst eds
  have ew := itW_dat os.l2 hv2
  have hwd := itW_dp (k := kk) os.l2
  have sl1 : ∀ (i : Nat) (t : T), (gD g1 i).isSome = true → oD τ1 i = some t → T.ok c.K H1 t := fun i t a b => slots_ok G1 a b
  have vt : ∀ (j i : Nat) (t : T), es[j]? = some (E.vin i) → ts[j]? = some t → oD τ1 i = some t := fun j i t a b => by
    rw [← (os.vok j i a).1]; exact b
  refine rIt_ok os.l2 hv2 hz (roots_ok os.l1 (fun p hp => ?_) fun j i t a b => sl1 i t (os.vok j i a).2 (vt j i t a b)) fun J WJ => ?_
  · exact (Good.apart os.l1 os.l2 os.vk G1).ok p (List.mem_append_left _ hp)
  generalize hws : itW kk ts ks = ws at WJ ew hwd
  let P : Nat → Hp → Prop := fun i H => ∃ (ρi : REnv) (τi : Tau) (acc : List T), Rel n (wipeD ρi own) gh τi (wipe σ own) ∧
    Good c.K H0 IO SR H (slots gh τi ++ ((.lst D acc, k'.succ) :: ((ws.drop i).flatMap IW.hold ++ (rtHold es ts ++ R)))) ∧
    compD (fun d r => (bindT t d r).bind fun r1 => (evc cl cs r1).bind fun (b, r2) => if b then (ev cl e r2).map fun (y, r3) => (some y, r3) else some (none, r2)) own (items.drop i) ρi (T.dats acc) = some (accD, ρ2) ∧
    (∀ j, j ∉ mutsL cs ++ muts e → j ∉ own → oD τi j = oD τ1 j)
  have alive : ∀ i k, gD gh i = some k → i ∉ own ∧ ∃ k', gD g1 i = some k' := fun i k e => by
    obtain ⟨k', e', _⟩ := h5.some e
    rw [gD_kill] at e'
    split at e'
    · cases e'
    · rename_i m; exact ⟨m, k', e'⟩
  refine ⟨fun i m H => m = ws.length - i ∧ i ≤ ws.length ∧ P i H, ⟨ws.length, by simp, Nat.zero_le _, ρ1, τ1, acc0, ?_, ?_, ?_, fun _ _ _ => rfl⟩, ?_⟩
  · refine Rel.wipe r1 h5 r.lσ fun i hi => ?_
    rw [wipe_get, if_neg hi]
  · have G2 := Good.apart os.l1 os.l2 os.vk G1
    have G3 : Good c.K H0 IO SR H1 (kidsAll ts ks ++ (rtHold es ts ++ (slots g1 τ1 ++ ((.lst D acc0, k'.succ) :: R)))) := G2.perm (perm3 ..)
    have G4 : Good c.K H0 IO SR H1 (ws.flatMap IW.hold ++ (rtHold es ts ++ (slots g1 τ1 ++ ((.lst D acc0, k'.succ) :: R)))) := by
      rw [← hws]; exact G3.items
    have G5 : Good c.K H0 IO SR H1 (slots g1 τ1 ++ (ws.flatMap IW.hold ++ (rtHold es ts ++ ((.lst D acc0, k'.succ) :: R)))) := G4.perm ((List.Perm.append_left _ (perm3 ..)).trans (perm3 ..))
    have G6 := G5.weakS (g' := gh) (fun i => leO_trans (h5 i) (kill_le g1 own i))
    rw [List.drop_zero]
    refine G6.perm (List.Perm.append_left _ ?_)
    exact (List.Perm.append_left _ List.perm_middle).trans List.perm_middle
  · rw [List.drop_zero]; exact hv3
  · rintro i m Hi ⟨rfl, hi, ρi, τi, acc, ri, Gi, ci, fi⟩
    have C : ∀ t ∈ ts, T.ok c.K Hi t.root := by
      refine roots_ok os.l1 (fun p hp => Gi.ok p ?_) fun j s t a b => ?_
      · exact List.mem_append_right _ (List.mem_cons_of_mem _ (List.mem_append_right _ (List.mem_append_left _ hp)))
      · have hm := mem_vins a
        have al := h10 s hm
        obtain ⟨k0, e0⟩ := Option.isSome_iff_exists.mp al
        have hs := fi s (h3 s hm) (alive s k0 e0).1
        exact Gi.ok (t, k0) (List.mem_append_left _ (mem_slots.mpr ⟨s, oD_lt (hs.trans (vt j s t a b)), e0, hs.trans (vt j s t a b)⟩))
    by_cases hlt : i < ws.length
    · refine .inr ⟨WJ.go i Hi C hlt, P (i + 1), fun H' p' => ⟨ws.length - (i + 1), by omega, rfl, hlt, p'⟩, fun x H' y => ?_⟩
      have ewi : ws[i]? = some ws[i] := List.getElem?_eq_getElem hlt
      have yy := WJ.yld i Hi x H' _ C ewi y
      have di : ws.drop i = ws[i] :: ws.drop (i + 1) := List.drop_eq_getElem_cons hlt
      have dii : items.drop i = ws[i].dat :: items.drop (i + 1) := by
        rw [ew, ← List.map_drop, di, List.map_cons, List.map_drop]
      rw [dii] at ci
      simp only [compD] at ci
      obtain ⟨⟨y?, ρd⟩, cb, ci⟩ := Option.bind_eq_some_iff.mp ci
      obtain ⟨ρb, cb1, cb⟩ := Option.bind_eq_some_iff.mp cb
      obtain ⟨⟨b, ρc⟩, cb2, cb⟩ := Option.bind_eq_some_iff.mp cb
      have Gb : Good c.K H0 IO SR Hi (ws[i].hold ++ (slots gh τi ++ ((.lst D acc, k'.succ) :: ((ws.drop (i + 1)).flatMap IW.hold ++ (rtHold es ts ++ R))))) := by
        rw [di, List.flatMap_cons] at Gi
        refine Gi.perm ?_
        have p : ((T.lst D acc, k'.succ) :: ((ws[i].hold ++ (ws.drop (i + 1)).flatMap IW.hold) ++ (rtHold es ts ++ R))).Perm (ws[i].hold ++ ((T.lst D acc, k'.succ) :: ((ws.drop (i + 1)).flatMap IW.hold ++ (rtHold es ts ++ R)))) := by
          rw [List.append_assoc]
          exact List.perm_middle.symm
        exact (List.Perm.append_left _ p).trans (perm3 ..)
      refine bind_ok (Q := fun σ2 H2 => wipe σ2 own = wipe σ own ∧ tCs c cs σ2 H2 fun b H3 => if b = true then tE c e σ2 H3 fun y H4 => ∃ acc, H4 D = some (.lst acc) ∧ acc.length < sizeLine ∧ P (i + 1) (upd H4 D (.lst (acc ++ [y]))) else P (i + 1) H3) h2 (hwd _ (List.getElem_mem hlt)) cb1 ri Gb yy fun τb σb rb Gbb fb fσ => ?_
      have hσ : ∀ j, j ∉ own → σb[j]? = (wipe σ own)[j]? := fun j hj => fσ j fun z => hj (h4 j z)
      refine ⟨wipe_ext (by rw [rb.lσ, r.lσ]) hσ, ?_⟩
      refine hC c n ρb (putG gh ps) τb σb H' b ρc ga' _ _ hc h6 cb2 rb Gbb fun τc Hc rc Gc fc => ?_
      cases b with
      | true =>
        rw [if_pos rfl]
        simp only [if_true, Option.map_eq_some_iff] at cb
        obtain ⟨⟨yd, ρe⟩, cb3, cb⟩ := cb
        cases cb
        simp only at ci
        split at ci
        · rename_i hlen
          refine hB c n ρc ga' τc σb Hc yd _ k' gb' _ _ hc h7 cb3 rc Gc fun τe ty He re Ge ety fe => ?_
          subst ety
          have Ge1 : Good c.K H0 IO SR He ((.lst D acc, k'.succ) :: ([(ty, k')] ++ (slots gb' τe ++ ((ws.drop (i + 1)).flatMap IW.hold ++ (rtHold es ts ++ R))))) := by
            refine Ge.perm ?_
            have p : ((ty, k') :: (slots gb' τe ++ ((T.lst D acc, k'.succ) :: ((ws.drop (i + 1)).flatMap IW.hold ++ (rtHold es ts ++ R))))).Perm ((ty, k') :: ((T.lst D acc, k'.succ) :: (slots gb' τe ++ ((ws.drop (i + 1)).flatMap IW.hold ++ (rtHold es ts ++ R))))) := List.Perm.cons _ List.perm_middle
            exact p.trans (List.Perm.swap ..)
          have oD' := Ge1.ok _ List.mem_cons_self
          unfold T.ok at oD'
          refine ⟨vals acc, oD'.1, by rw [lim_eq]; rw [dats_len] at hlen; simpa using hlen, ρe, τe, acc ++ [ty], ?_, ?_, ?_, fun j hj hjo => ?_⟩
          · exact Rel.wipe re h8 r.lσ hσ
          · have Gm := Good.mut (old := [(ty, k')]) (more := []) (ts' := acc ++ [ty]) (j := k'.succ) Ge1 (Dp.succ_pos _) (fun u hu => ?_) (fun p hp => nomatch hp) (fun b hb => ?_) (fun b => ?_)
            · rw [vals_app] at Gm
              have Gm' : Good c.K H0 IO SR (upd He D (.lst (vals acc ++ [ty.val]))) ((.lst D (acc ++ [ty]), k'.succ) :: (slots gb' τe ++ ((ws.drop (i + 1)).flatMap IW.hold ++ (rtHold es ts ++ R)))) := Gm
              exact Gm'.inR1.weakS fun i => leO_trans (h8 i) (kill_le gb' own i)
            · rcases List.mem_append.mp hu with hu | hu
              · exact oks_iff.mp oD'.2 u hu
              · rw [List.mem_singleton.mp hu]
                exact Ge.ok _ List.mem_cons_self
            · rw [Dp.pred_succ] at hb ⊢
              rw [show hOwn ([] : Hold) = [] from rfl, List.append_nil, owns_flat, List.flatMap_append] at hb
              rcases List.mem_append.mp hb with hb | hb
              · exact .inl (by rw [owns_flat]; exact hb)
              · exact .inr (by simpa [hOwn] using hb)
            · rw [las_app, List.count_append]
              simp [hLa, T.las]
          · rw [dats_app]
            exact ci
          · have : j ∉ mutsL cs ∧ j ∉ muts e := ⟨fun z => hj (List.mem_append_left _ z), fun z => hj (List.mem_append_right _ z)⟩
            rw [fe j this.2, fc j this.1, fb j (fun z => hjo (h4 j z)), fi j hj hjo]
        · cases ci
      | false =>
        rw [if_neg (by decide)]
        simp only [Bool.false_eq_true, if_false, Option.some.injEq, Prod.mk.injEq] at cb
        obtain ⟨rfl, rfl⟩ := cb
        refine ⟨ρc, τc, acc, Rel.wipe rc h9 r.lσ hσ, ?_, ci, fun j hj hjo => ?_⟩
        · exact Gc.weakS fun i => leO_trans (h9 i) (kill_le ga' own i)
        · have : j ∉ mutsL cs ∧ j ∉ muts e := ⟨fun z => hj (List.mem_append_left _ z), fun z => hj (List.mem_append_right _ z)⟩
          rw [fc j this.1, fb j (fun z => hjo (h4 j z)), fi j hj hjo]
    · have e : i = ws.length := by omega
      subst e
      refine .inl ⟨WJ.stop Hi C, ?_⟩
      have dn : items.drop ws.length = [] := by rw [ew]; exact List.drop_eq_nil_of_le (by simp)
      rw [dn] at ci
      simp only [compD, Option.some.injEq, Prod.mk.injEq] at ci
      obtain ⟨ea, rfl⟩ := ci
      refine hN τi acc Hi ea (ri.sig r.lσ fun i k e => ?_) ?_ fun j hj hjo => ?_
      · rw [wipe_get, if_neg (alive i k e).1]
      · have q : Good c.K H0 IO SR Hi (((ws.drop ws.length).flatMap IW.hold ++ rtHold es ts) ++ (slots gh τi ++ ((.lst D acc, k'.succ) :: R))) := by
          refine Gi.perm ?_
          have p : ((T.lst D acc, k'.succ) :: ((ws.drop ws.length).flatMap IW.hold ++ (rtHold es ts ++ R))).Perm (((ws.drop ws.length).flatMap IW.hold ++ rtHold es ts) ++ ((T.lst D acc, k'.succ) :: R)) := by
            rw [← List.append_assoc]
            exact List.perm_middle.symm
          exact (List.Perm.append_left _ p).trans (perm3 ..)
        exact q.dropL
      · rw [fi j (notm hj).2 hjo, fr1 j (notm hj).1]
where
  notm {a b : List Nat} {i : Nat} (h : i ∉ a ++ b) : i ∉ a ∧ i ∉ b := ⟨fun z => h (List.mem_append_left _ z), fun z => h (List.mem_append_right _ z)⟩

/-- a turn of the outer clause, checked -/
theorem ty_comp2 {t t2 : Tg} {own own2 : List Nat} {kk kk2 : ItK} {es cs es2 cs2 : List E} {e : E} {g g' : Gam} {k : Dp} (h : ty sg (.comp2 t own kk es cs t2 own2 kk2 es2 cs2 e) g = some (k, g')) :
    ∃ ks g1 ps gh ga ks2 gb ps2 ih gc k' gd, tyo sg es g = some (ks, g1) ∧ tgDp t kk ks = some ps ∧ (∀ i ∈ vinsOf es, i ∉ mutsL cs ++ (mutsL es2 ++ (mutsL cs2 ++ muts e))) ∧ (∀ i ∈ vinsOf es2, i ∉ mutsL cs2 ++ muts e) ∧ (∀ i ∈ tgs t, i ∈ own) ∧ (∀ i ∈ tgs t2, i ∈ own2) ∧ (∀ i ∈ own2, i ∈ own) ∧
      GLe gh (killG g1 own) ∧ tyc sg cs (putG gh ps) = some ga ∧ tyo sg es2 ga = some (ks2, gb) ∧ tgDp t2 kk2 ks2 = some ps2 ∧ GLe ih (killG gb own2) ∧ tyc sg cs2 (putG ih ps2) = some gc ∧ ty sg e gc = some (k', gd) ∧ GLe ih (killG gd own2) ∧ GLe ih (killG gc own2) ∧ (∀ i ∈ vinsOf es2, (gD ih i).isSome = true) ∧
      GLe gh (killG ga own) ∧ GLe gh (killG ih own) ∧ (∀ i ∈ vinsOf es, (gD gh i).isSome = true) ∧
      ((k'.succ = .om ∧ mutsL es ++ mutsL cs ++ mutsL es2 ++ mutsL cs2 ++ muts e = [] ∧ k = .om ∧ g' = killG (back g gh) own) ∨ (k = k'.succ ∧ g' = gh)) := by
  simp only [ty] at h
  obtain ⟨⟨ks, g1⟩, h1, h⟩ := Option.bind_eq_some_iff.mp h
  obtain ⟨ps, h2, h⟩ := Option.bind_eq_some_iff.mp h
  simp only at h h2
  split at h
  · cases h
  rename_i cnd
  simp only [Bool.or_eq_true, not_or, Bool.not_eq_true, Bool.not_eq_false'] at cnd
  obtain ⟨⟨p0, gA, ihA⟩, _, h⟩ := Option.bind_eq_some_iff.mp h
  simp only at h
  obtain ⟨⟨k', ga, ih⟩, hT, h⟩ := Option.bind_eq_some_iff.mp h
  simp only at h
  split at h
  · rename_i c2
    simp only [Bool.and_eq_true] at c2
    obtain ⟨ga1, t1, hT⟩ := Option.bind_eq_some_iff.mp hT
    obtain ⟨⟨ks2, gb⟩, t2', hT⟩ := Option.bind_eq_some_iff.mp hT
    obtain ⟨ps2, t3, hT⟩ := Option.bind_eq_some_iff.mp hT
    obtain ⟨gc0, t4, hT⟩ := Option.bind_eq_some_iff.mp hT
    obtain ⟨⟨k0, gd0⟩, t5, hT⟩ := Option.bind_eq_some_iff.mp hT
    obtain ⟨gc, t6, hT⟩ := Option.bind_eq_some_iff.mp hT
    obtain ⟨⟨k1, gd⟩, t7, hT⟩ := Option.bind_eq_some_iff.mp hT
    simp only at hT
    split at hT
    · rename_i c3
      simp only [Bool.and_eq_true] at c3
      cases hT
      refine ⟨ks, g1, ps, _, _, ks2, gb, ps2, _, gc, _, gd, h1, h2, fun i hi z => ?_, fun i hi z => ?_, fun i hi => ?_, fun i hi => ?_, fun i hi => ?_, meet_l _ _, t1, t2', t3, meet_l _ _, t6, t7, leG_ok c3.1.1, leG_ok c3.1.2, fun i hi => List.all_eq_true.mp c3.2 i hi, leG_ok c2.1.1, leG_ok c2.1.2, fun i hi => List.all_eq_true.mp c2.2 i hi, ?_⟩
      · have := List.any_eq_false.mp cnd.1.1.1.1 i hi
        exact this (by simpa using z)
      · have := List.any_eq_false.mp cnd.1.1.1.2 i hi
        exact this (by simpa using z)
      · have := List.all_eq_true.mp cnd.1.1.2 i hi
        simpa using this
      · have := List.all_eq_true.mp cnd.1.2 i hi
        simpa using this
      · have := List.all_eq_true.mp cnd.2 i hi
        simpa using this
      · split at h
        · rename_i c4
          cases h
          exact .inl ⟨c4.1, c4.2, rfl, rfl⟩
        · cases h
          exact .inr ⟨rfl, rfl⟩
    · cases hT
  · cases h
theorem comp2_ok {t t2 : Tg} {own own2 : List Nat} {kk kk2 : ItK} {es cs es2 cs2 : List E} {e : E} (hz : kk ≠ .zip true) (hz2 : kk2 ≠ .zip true) (hE : EvoP cl sg H0 IO SR es) (hC : EvcP cl sg H0 IO SR cs) (hE2 : EvoP cl sg H0 IO SR es2) (hC2 : EvcP cl sg H0 IO SR cs2) (hB : EvP cl sg H0 IO SR e) :
    EvP cl sg H0 IO SR (.comp2 t own kk es cs t2 own2 kk2 es2 cs2 e) := by
  intro c n ρ g τ σ H d ρ' k g' R Q hc ht hv r G hQ
  obtain ⟨ks, g1, ps, gh, ga, ks2, gb, ps2, ih, gc, k', gd, h1, h2, h3, h3', h4, h4', h4'', h5, y1, y2, y3, y4, y5, y6, y7, y8, y9, h8, h9, h10, h11⟩ := ty_comp2 ht
  simp only [ev] at hv
  obtain ⟨⟨ds, ρ1⟩, hv1, hv⟩ := Option.bind_eq_some_iff.mp hv
  obtain ⟨items, hv2, hv⟩ := Option.bind_eq_some_iff.mp hv
  simp only [Option.map_eq_some_iff] at hv
  obtain ⟨⟨out, ρ2⟩, hv3, hv⟩ := hv
  cases hv
  show tIt c.K kk (tEl c es) σ H _
  have ar := itD_ar hv2
  refine tIt_of (by rw [tEl_len, evs_len0 hv1, ar]) hz ?_
  refine hE c n ρ g τ σ H ds ρ1 ks g1 R _ hc h1 hv1 r G fun τ1 ts H1 r1 G1 eds os fr1 => ?_
  subst eds
  have ew := itW_dat os.l2 hv2
  have hwd := itW_dp (k := kk) os.l2
  have sl1 : ∀ (i : Nat) (t : T), (gD g1 i).isSome = true → oD τ1 i = some t → T.ok c.K H1 t := fun i t a b => slots_ok G1 a b
  have vt : ∀ (j i : Nat) (t : T), es[j]? = some (E.vin i) → ts[j]? = some t → oD τ1 i = some t := fun j i t a b => by
    rw [← (os.vok j i a).1]; exact b
  refine rIt_ok os.l2 hv2 hz (roots_ok os.l1 (fun p hp => ?_) fun j i t a b => sl1 i t (os.vok j i a).2 (vt j i t a b)) fun J WJ D hD => ?_
  · exact (Good.apart os.l1 os.l2 os.vk G1).ok p (List.mem_append_left _ hp)
  generalize hws : itW kk ts ks = ws at WJ ew hwd
  let P : Nat → Hp → Prop := fun i H => ∃ (ρi : REnv) (τi : Tau) (acc : List T), Rel n (wipeD ρi own) gh τi (wipe σ own) ∧
    Good c.K H0 IO SR H (slots gh τi ++ ((.lst D acc, k'.succ) :: ((ws.drop i).flatMap IW.hold ++ (rtHold es ts ++ R)))) ∧
    compF (fun d r acc => (bindT t d r).bind fun r1 => (evc cl cs r1).bind fun (b, r2) => if b then
        (evs cl es2 r2).bind fun (ds2, r3) => (itD kk2 ds2).bind fun items2 =>
          compD (fun d r => (bindT t2 d r).bind fun r1 => (evc cl cs2 r1).bind fun (b, r2) => if b then (ev cl e r2).map fun (y, r3) => (some y, r3) else some (none, r2)) own2 items2 r3 acc
        else some (acc, r2)) own (items.drop i) ρi (T.dats acc) = some (out, ρ2) ∧
    (∀ j, j ∉ mutsL cs ++ (mutsL es2 ++ (mutsL cs2 ++ muts e)) → j ∉ own → oD τi j = oD τ1 j)
  have alive : ∀ i k, gD gh i = some k → i ∉ own ∧ ∃ k', gD g1 i = some k' := fun i k e => by
    obtain ⟨k', e', _⟩ := h5.some e
    rw [gD_kill] at e'
    split at e'
    · cases e'
    · rename_i m; exact ⟨m, k', e'⟩
  refine ⟨fun i m H => m = ws.length - i ∧ i ≤ ws.length ∧ P i H, ⟨ws.length, by simp, Nat.zero_le _, ρ1, τ1, [], ?_, ?_, ?_, fun _ _ _ => rfl⟩, ?_⟩
  · refine Rel.wipe r1 h5 r.lσ fun i hi => ?_
    rw [wipe_get, if_neg hi]
  · have G2 := Good.apart os.l1 os.l2 os.vk G1
    have G3 : Good c.K H0 IO SR H1 (kidsAll ts ks ++ (rtHold es ts ++ (slots g1 τ1 ++ R))) := G2.perm (perm3 ..)
    have G4 : Good c.K H0 IO SR H1 (ws.flatMap IW.hold ++ (rtHold es ts ++ (slots g1 τ1 ++ R))) := by
      rw [← hws]; exact G3.items
    have G5 : Good c.K H0 IO SR H1 (slots g1 τ1 ++ (ws.flatMap IW.hold ++ (rtHold es ts ++ R))) := G4.perm ((List.Perm.append_left _ (perm3 ..)).trans (perm3 ..))
    have G6 := G5.weakS (g' := gh) (fun i => leO_trans (h5 i) (kill_le g1 own i))
    have G7 := Good.newL (old := []) (k := k') (ts := []) G6 hD (fun t h => nomatch h) (fun a m => by simp [T.owns] at m) (fun a => by simp [T.las])
    exact G7.inR1
  · rw [List.drop_zero]; exact hv3
  · rintro i m Hi ⟨rfl, hi, ρi, τi, acc, ri, Gi, ci, fi⟩
    have C : ∀ t ∈ ts, T.ok c.K Hi t.root := by
      refine roots_ok os.l1 (fun p hp => Gi.ok p ?_) fun j s t a b => ?_
      · exact List.mem_append_right _ (List.mem_cons_of_mem _ (List.mem_append_right _ (List.mem_append_left _ hp)))
      · have hm := mem_vins a
        have al := h10 s hm
        obtain ⟨k0, e0⟩ := Option.isSome_iff_exists.mp al
        have hs := fi s (h3 s hm) (alive s k0 e0).1
        exact Gi.ok (t, k0) (List.mem_append_left _ (mem_slots.mpr ⟨s, oD_lt (hs.trans (vt j s t a b)), e0, hs.trans (vt j s t a b)⟩))
    by_cases hlt : i < ws.length
    · refine .inr ⟨WJ.go i Hi C hlt, P (i + 1), fun H' p' => ⟨ws.length - (i + 1), by omega, rfl, hlt, p'⟩, fun x H' y => ?_⟩
      have ewi : ws[i]? = some ws[i] := List.getElem?_eq_getElem hlt
      have yy := WJ.yld i Hi x H' _ C ewi y
      have di : ws.drop i = ws[i] :: ws.drop (i + 1) := List.drop_eq_getElem_cons hlt
      have dii : items.drop i = ws[i].dat :: items.drop (i + 1) := by
        rw [ew, ← List.map_drop, di, List.map_cons, List.map_drop]
      rw [dii] at ci
      simp only [compF] at ci
      obtain ⟨⟨acc', ρd⟩, cb, ci⟩ := Option.bind_eq_some_iff.mp ci
      obtain ⟨ρb, cb1, cb⟩ := Option.bind_eq_some_iff.mp cb
      obtain ⟨⟨b, ρc⟩, cb2, cb⟩ := Option.bind_eq_some_iff.mp cb
      have Gb : Good c.K H0 IO SR Hi (ws[i].hold ++ (slots gh τi ++ ((.lst D acc, k'.succ) :: ((ws.drop (i + 1)).flatMap IW.hold ++ (rtHold es ts ++ R))))) := by
        rw [di, List.flatMap_cons] at Gi
        refine Gi.perm ?_
        have p : ((T.lst D acc, k'.succ) :: ((ws[i].hold ++ (ws.drop (i + 1)).flatMap IW.hold) ++ (rtHold es ts ++ R))).Perm (ws[i].hold ++ ((T.lst D acc, k'.succ) :: ((ws.drop (i + 1)).flatMap IW.hold ++ (rtHold es ts ++ R)))) := by
          rw [List.append_assoc]
          exact List.perm_middle.symm
        exact (List.Perm.append_left _ p).trans (perm3 ..)
      refine bind_ok (Q := fun σ2 H2 => wipe σ2 own = wipe σ own ∧ tCs c.inn cs σ2 H2 fun b H3 => if b = true then tIt c.K kk2 (tEl c.inn es2) σ2 H3 _ else P (i + 1) H3) h2 (hwd _ (List.getElem_mem hlt)) cb1 ri Gb yy fun τb σb rb Gbb fb fσ => ?_
      have hσ : ∀ j, j ∉ own → σb[j]? = (wipe σ own)[j]? := fun j hj => fσ j fun z => hj (h4 j z)
      refine ⟨wipe_ext (by rw [rb.lσ, r.lσ]) hσ, ?_⟩
      refine hC c.inn n ρb (putG gh ps) τb σb H' b ρc ga _ _ hc y1 cb2 rb Gbb fun τc Hc rc Gc fc => ?_
      have four : ∀ {j : Nat}, j ∉ mutsL cs ++ (mutsL es2 ++ (mutsL cs2 ++ muts e)) → j ∉ mutsL cs ∧ j ∉ mutsL es2 ++ (mutsL cs2 ++ muts e) := fun {j} hj => ⟨fun z => hj (List.mem_append_left _ z), fun z => hj (List.mem_append_right _ z)⟩
      cases b with
      | true =>
        rw [if_pos rfl]
        simp only [if_true] at cb
        obtain ⟨⟨ds2, ρe⟩, cb3, cb⟩ := Option.bind_eq_some_iff.mp cb
        obtain ⟨items2, cb4, cb5⟩ := Option.bind_eq_some_iff.mp cb
        simp only at cb4 cb5 ci
        refine inner_ok (c := c.inn) hz2 hE2 hC2 hB hc y2 y3 h3' h4' y4 y5 y6 y7 y8 y9 cb3 cb4 cb5 rc Gc fun τf acc2 Hf ea rf Gf ff => ?_
        refine ⟨ρd, τf, acc2, Rel.wipe rf h9 r.lσ hσ, Gf.weakS (fun i => leO_trans (h9 i) (kill_le ih own i)), by rw [ea]; exact ci, fun j hj hjo => ?_⟩
        rw [ff j (four hj).2 (fun z => hjo (h4'' j z)), fc j (four hj).1, fb j (fun z => hjo (h4 j z)), fi j hj hjo]
      | false =>
        rw [if_neg (by decide)]
        simp only [Bool.false_eq_true, if_false, Option.some.injEq, Prod.mk.injEq] at cb
        obtain ⟨rfl, rfl⟩ := cb
        refine ⟨ρc, τc, acc, Rel.wipe rc h8 r.lσ hσ, Gc.weakS (fun i => leO_trans (h8 i) (kill_le ga own i)), ci, fun j hj hjo => ?_⟩
        rw [fc j (four hj).1, fb j (fun z => hjo (h4 j z)), fi j hj hjo]
    · have e : i = ws.length := by omega
      subst e
      refine .inl ⟨WJ.stop Hi C, ?_⟩
      have dn : items.drop ws.length = [] := by rw [ew]; exact List.drop_eq_nil_of_le (by simp)
      rw [dn] at ci
      simp only [compF, Option.some.injEq, Prod.mk.injEq] at ci
      obtain ⟨rfl, rfl⟩ := ci
      have l0 : τ.length = τi.length := r.lτ.trans ri.lτ.symm
      have mx : ∀ i k, gD gh i = some k → oD (mixT own τ τi) i = oD τi i := fun i k e => by
        rw [mixT_get l0, if_neg (alive i k e).1]
      have r3 : Rel n (wipeD ρi own) gh (mixT own τ τi) σ := by
        refine (ri.tau mixT_len mx).sig r.lσ fun i k e => ?_
        rw [wipe_get, if_neg (alive i k e).1]
      have G3 : Good c.K H0 IO SR Hi ((.lst D acc, k'.succ) :: (slots gh (mixT own τ τi) ++ R)) := by
        rw [slots_tau mixT_len mx]
        have q : Good c.K H0 IO SR Hi (((ws.drop ws.length).flatMap IW.hold ++ rtHold es ts) ++ ((.lst D acc, k'.succ) :: (slots gh τi ++ R))) := by
          refine Gi.perm ?_
          refine List.perm_middle.trans ?_
          refine List.Perm.trans (List.Perm.cons _ ?_) List.perm_middle.symm
          rw [← List.append_assoc (as := (ws.drop ws.length).flatMap IW.hold)]
          exact perm3 ..
        exact q.dropL
      have fr : ∀ j, j ∉ muts (.comp2 t own kk es cs t2 own2 kk2 es2 cs2 e) → oD (mixT own τ τi) j = oD τ j := fun j hj => by
        rw [mixT_get l0]
        split
        · rfl
        · rename_i m
          have hj' : j ∉ mutsL es ∧ j ∉ mutsL cs ++ (mutsL es2 ++ (mutsL cs2 ++ muts e)) := by
            unfold muts at hj
            simp only [List.mem_append, not_or] at hj ⊢
            exact ⟨hj.1.1.1.1, hj.1.1.1.2, hj.1.1.2, hj.1.2, hj.2⟩
          rw [fi j hj'.2 m, fr1 j hj'.1]
      rcases h11 with ⟨e1, e2, e3, e4⟩ | ⟨e1, e2⟩
      · subst e3; subst e4
        rw [e1] at G3
        have bk : ∀ i k, gD (killG (back g gh) own) i = some k → gD gh i ≠ none ∧ gD g i = some k := fun i k e => by
          rw [gD_kill] at e
          split at e
          · cases e
          · rw [gD_back] at e
            cases eg : gD gh i with
            | none => rw [eg] at e; cases e
            | some k1 => rw [eg] at e; exact ⟨by simp, e⟩
        have G4 := Good.restore (N := [(.lst D acc, .om)]) (g2 := killG (back g gh) own) G G3 (fun p hp => by rw [List.mem_singleton.mp hp]) (mixT_len.trans l0.symm) fun i k hi e => by
          obtain ⟨a1, a2⟩ := bk i k e
          cases eg : gD gh i with
          | none => exact absurd eg a1
          | some k1 =>
            refine ⟨k1, rfl, .inr ⟨a2, fr i ?_⟩⟩
            unfold muts
            rw [e2]; exact List.not_mem_nil
        refine hQ (mixT own τ τi) (.lst D acc) Hi (r3.dom fun i k e => ?_) G4 rfl fr
        obtain ⟨a1, a2⟩ := bk i k e
        cases eg : gD gh i with
        | none => exact absurd eg a1
        | some k1 => exact ⟨k1, rfl⟩
      · subst e1; subst e2
        exact hQ (mixT own τ τi) (.lst D acc) Hi r3 G3 rfl fr
end
end OH

namespace OH
open PySem PySem.Spec PyProof.Rows L2
section
variable {cl : Calls} {sg : Nat → Sig} {H0 : Hp} {IO SR : List Addr}
theorem ty_compO {t : Tg} {own : List Nat} {s0 : Nat} {cs : List E} {e : E} {g g' : Gam} {k : Dp} (h : ty sg (.compO t own s0 cs e) g = some (k, g')) :
    ∃ k0 ps ga' k' gb' gh, gD g s0 = some k0 ∧ tgDp t .list [k0] = some ps ∧ s0 ∉ mutsL cs ++ muts e ∧ s0 ∉ own ∧ (∀ i ∈ tgs t, i ∈ own) ∧ GLe gh (killG (g.set s0 (some (k0.mn (.fin 1)))) own) ∧ tyc sg cs (putG gh ps) = some ga' ∧ ty sg e ga' = some (k', gb') ∧
      GLe gh (killG gb' own) ∧ GLe gh (killG ga' own) ∧ (gD gh s0).isSome = true ∧ k = k'.succ ∧ g' = gh := by
  simp only [ty] at h
  obtain ⟨k0, h1, h⟩ := Option.bind_eq_some_iff.mp h
  obtain ⟨ps, h2, h⟩ := Option.bind_eq_some_iff.mp h
  split at h
  · cases h
  rename_i c
  simp only [Bool.or_eq_true, not_or, decide_eq_true_eq, Bool.not_eq_true', Bool.not_eq_false] at c
  obtain ⟨ga, h3, h⟩ := Option.bind_eq_some_iff.mp h
  obtain ⟨⟨k1, gb⟩, h4, h⟩ := Option.bind_eq_some_iff.mp h
  simp only at h
  obtain ⟨ga', h5, h⟩ := Option.bind_eq_some_iff.mp h
  obtain ⟨⟨k', gb'⟩, h6, h⟩ := Option.bind_eq_some_iff.mp h
  simp only at h
  split at h
  · rename_i c2
    simp only [Bool.and_eq_true] at c2
    cases h
    refine ⟨k0, ps, ga', k', gb', _, h1, h2, c.1.1, c.1.2, fun i hi => ?_, meet_l _ _, h5, h6, leG_ok c2.1.1, leG_ok c2.1.2, c2.2, rfl, rfl⟩
    have := List.all_eq_true.mp c.2 i hi
    simpa using this
  · cases h
theorem compO_ok {t : Tg} {own : List Nat} {s0 : Nat} {cs : List E} {e : E} (hC : EvcP cl sg H0 IO SR cs) (hB : EvP cl sg H0 IO SR e) : EvP cl sg H0 IO SR (.compO t own s0 cs e) := by
  intro c n ρ g τ σ H d ρ' k g' R Q hc ht hv r G hQ
  obtain ⟨k0, ps, ga', k', gb', gh, h1, h2, h3, h3o, h4, h5, h6, h7, h8, h9, h10, h11, h12⟩ := ty_compO ht
  subst h11; subst h12
  simp only [ev] at hv
  split at hv
  case h_2 => cases hv
  rename_i xs hx
  simp only [Option.map_eq_some_iff] at hv
  obtain ⟨⟨out, ρ2⟩, hv3, hv⟩ := hv
  cases hv
  show tLc (tIt c.K .list [tVar s0]) (tTg c.K t) (tCs c.inn cs) (tE c.inn e) own σ H Q
  have hi0 : s0 < n := by rw [← r.lρ]; exact oD_lt hx
  obtain ⟨tr, hτ, hρ, hσ0⟩ := r.at_ s0 k0 hi0 h1
  rw [hx] at hρ
  have edat : tr.dat = .lst xs := (Option.some.inj hρ).symm
  obtain ⟨a0, us, rfl, hus⟩ := dat_lst edat
  -- the items leave the list
  have G0 := (G.take h1 hτ).split1
  have G1 : Good c.K H0 IO SR H (slots (g.set s0 (some (k0.mn (.fin 1)))) (τ.set s0 (some (T.root (.lst a0 us)))) ++ (kidH (.lst a0 us) k0.pred ++ R)) := by
    have q : Good c.K H0 IO SR H ((T.root (.lst a0 us), k0.mn (.fin 1)) :: (slots (g.set s0 none) τ ++ (kidH (.lst a0 us) k0.pred ++ R))) := by
      refine G0.perm (List.Perm.cons _ ?_)
      rw [← List.append_assoc, ← List.append_assoc]
      exact List.perm_append_comm.append_right R
    have q2 := q.put (i := s0)
    rw [List.set_set] at q2
    exact q2
  generalize hτ1 : τ.set s0 (some (T.root (.lst a0 us))) = τ1 at G1
  have hτ1s : oD τ1 s0 = some (T.raw a0 (vals us)) := by rw [← hτ1]; exact oD_set_eq (by rw [r.lτ]; exact hi0)
  have r1 : Rel n (ρ.set s0 (some (.rawl xs.length))) (g.set s0 (some (k0.mn (.fin 1)))) τ1 σ := by
    have q := Rel.mut r (u := .raw a0 (vals us)) (k := k0.mn (.fin 1)) hτ hσ0 rfl
    have e1 : T.dat (.raw a0 (vals us)) = .rawl xs.length := by
      rw [T.dat, ← hus, dats_len, show (vals us).length = us.length from List.length_map _]
    rw [e1] at q
    rw [← hτ1]; exact q
  have hit : itD .list (T.dats [.lst a0 us]) = some xs := by
    show itD .list [T.dat (.lst a0 us)] = some xs
    rw [edat]; rfl
  have ew := itW_dat (k := .list) (ts := [T.lst a0 us]) (ks := [k0]) rfl hit
  have hwd := itW_dp (k := .list) (ts := [T.lst a0 us]) (ks := [k0]) rfl
  unfold tLc
  refine tIt_of (k := .list) rfl (by decide) ?_
  refine ⟨.ref a0, hσ0, ?_⟩
  dsimp only [seqT, tNil]
  refine rIt_ok (k := .list) (ks := [k0]) rfl hit (by decide) (fun t ht => ?_) fun J WJ D hD => ?_
  · rw [List.mem_singleton.mp ht]
    exact root_ok ((G.take h1 hτ).ok _ List.mem_cons_self)
  generalize hws : itW .list [T.lst a0 us] [k0] = ws at WJ ew hwd
  let P : Nat → Hp → Prop := fun i H => ∃ (ρi : REnv) (τi : Tau) (acc : List T), Rel n (wipeD ρi own) g' τi (wipe σ own) ∧
    Good c.K H0 IO SR H (slots g' τi ++ ((.lst D acc, k'.succ) :: ((ws.drop i).flatMap IW.hold ++ R))) ∧
    compD (fun d r => (bindT t d r).bind fun r1 => (evc cl cs r1).bind fun (b, r2) => if b then (ev cl e r2).map fun (y, r3) => (some y, r3) else some (none, r2)) own (xs.drop i) ρi (T.dats acc) = some (out, ρ2) ∧
    (∀ j, j ∉ mutsL cs ++ muts e → j ∉ own → oD τi j = oD τ1 j)
  have alive : ∀ i k, gD g' i = some k → i ∉ own ∧ ∃ k', gD (g.set s0 (some (k0.mn (.fin 1)))) i = some k' := fun i k e => by
    obtain ⟨k', e', _⟩ := h5.some e
    rw [gD_kill] at e'
    split at e'
    · cases e'
    · rename_i m; exact ⟨m, k', e'⟩
  refine ⟨fun i m H => m = ws.length - i ∧ i ≤ ws.length ∧ P i H, ⟨ws.length, by simp, Nat.zero_le _, ρ.set s0 (some (.rawl xs.length)), τ1, [], ?_, ?_, ?_, fun _ _ _ => rfl⟩, ?_⟩
  · refine Rel.wipe r1 h5 r.lσ fun i hi => ?_
    rw [wipe_get, if_neg hi]
  · have G5 : Good c.K H0 IO SR H (slots (g.set s0 (some (k0.mn (.fin 1)))) τ1 ++ (ws.flatMap IW.hold ++ R)) := by
      have e1 : ws.flatMap IW.hold = kidH (.lst a0 us) k0.pred := by
        rw [← hws]
        show (us.map fun x => IW.one x k0.pred).flatMap IW.hold = _
        rw [ones_hold]; rfl
      rw [e1]; exact G1
    have G6 := G5.weakS (g' := g') (fun i => leO_trans (h5 i) (kill_le _ own i))
    have G7 := Good.newL (old := []) (k := k') (ts := []) G6 hD (fun t h => nomatch h) (fun a m => by simp [T.owns] at m) (fun a => by simp [T.las])
    exact G7.inR1
  · rw [List.drop_zero]; exact hv3
  · rintro i m Hi ⟨rfl, hi, ρi, τi, acc, ri, Gi, ci, fi⟩
    have C : ∀ t ∈ [T.lst a0 us], T.ok c.K Hi t.root := fun t ht => by
      rw [List.mem_singleton.mp ht]
      obtain ⟨k1, e1⟩ := Option.isSome_iff_exists.mp h10
      have hs := fi s0 h3 h3o
      exact Gi.ok (T.raw a0 (vals us), k1) (List.mem_append_left _ (mem_slots.mpr ⟨s0, oD_lt (hs.trans hτ1s), e1, hs.trans hτ1s⟩))
    by_cases hlt : i < ws.length
    · refine .inr ⟨WJ.go i Hi C hlt, P (i + 1), fun H' p' => ⟨ws.length - (i + 1), by omega, rfl, hlt, p'⟩, fun x H' y => ?_⟩
      have ewi : ws[i]? = some ws[i] := List.getElem?_eq_getElem hlt
      have yy := WJ.yld i Hi x H' _ C ewi y
      have di : ws.drop i = ws[i] :: ws.drop (i + 1) := List.drop_eq_getElem_cons hlt
      have dii : xs.drop i = ws[i].dat :: xs.drop (i + 1) := by
        rw [ew, ← List.map_drop, di, List.map_cons, List.map_drop]
      rw [dii] at ci
      simp only [compD] at ci
      obtain ⟨⟨y?, ρd⟩, cb, ci⟩ := Option.bind_eq_some_iff.mp ci
      obtain ⟨ρb, cb1, cb⟩ := Option.bind_eq_some_iff.mp cb
      obtain ⟨⟨b, ρc⟩, cb2, cb⟩ := Option.bind_eq_some_iff.mp cb
      have Gb : Good c.K H0 IO SR Hi (ws[i].hold ++ (slots g' τi ++ ((.lst D acc, k'.succ) :: ((ws.drop (i + 1)).flatMap IW.hold ++ R)))) := by
        rw [di, List.flatMap_cons] at Gi
        refine Gi.perm ?_
        have p : ((T.lst D acc, k'.succ) :: ((ws[i].hold ++ (ws.drop (i + 1)).flatMap IW.hold) ++ R)).Perm (ws[i].hold ++ ((T.lst D acc, k'.succ) :: ((ws.drop (i + 1)).flatMap IW.hold ++ R))) := by
          rw [List.append_assoc]
          exact List.perm_middle.symm
        exact (List.Perm.append_left _ p).trans (perm3 ..)
      refine bind_ok (Q := fun σ2 H2 => wipe σ2 own = wipe σ own ∧ tCs c.inn cs σ2 H2 fun b H3 => if b = true then tE c.inn e σ2 H3 fun y H4 => ∃ acc, H4 D = some (.lst acc) ∧ acc.length < sizeLine ∧ P (i + 1) (upd H4 D (.lst (acc ++ [y]))) else P (i + 1) H3) h2 (hwd _ (List.getElem_mem hlt)) cb1 ri Gb yy fun τb σb rb Gbb fb fσ => ?_
      have hσ : ∀ j, j ∉ own → σb[j]? = (wipe σ own)[j]? := fun j hj => fσ j fun z => hj (h4 j z)
      refine ⟨wipe_ext (by rw [rb.lσ, r.lσ]) hσ, ?_⟩
      refine hC c.inn n ρb (putG g' ps) τb σb H' b ρc ga' _ _ hc h6 cb2 rb Gbb fun τc Hc rc Gc fc => ?_
      cases b with
      | true =>
        rw [if_pos rfl]
        simp only [if_true, Option.map_eq_some_iff] at cb
        obtain ⟨⟨yd, ρe⟩, cb3, cb⟩ := cb
        cases cb
        simp only at ci
        split at ci
        · rename_i hlen
          refine hB c.inn n ρc ga' τc σb Hc yd _ k' gb' _ _ hc h7 cb3 rc Gc fun τe ty He re Ge ety fe => ?_
          subst ety
          have Ge1 : Good c.K H0 IO SR He ((.lst D acc, k'.succ) :: ([(ty, k')] ++ (slots gb' τe ++ ((ws.drop (i + 1)).flatMap IW.hold ++ R)))) := by
            refine Ge.perm ?_
            have p : ((ty, k') :: (slots gb' τe ++ ((T.lst D acc, k'.succ) :: ((ws.drop (i + 1)).flatMap IW.hold ++ R)))).Perm ((ty, k') :: ((T.lst D acc, k'.succ) :: (slots gb' τe ++ ((ws.drop (i + 1)).flatMap IW.hold ++ R)))) := List.Perm.cons _ List.perm_middle
            exact p.trans (List.Perm.swap ..)
          have oD' := Ge1.ok _ List.mem_cons_self
          unfold T.ok at oD'
          refine ⟨vals acc, oD'.1, by rw [lim_eq]; rw [dats_len] at hlen; simpa using hlen, ρe, τe, acc ++ [ty], ?_, ?_, ?_, fun j hj hjo => ?_⟩
          · exact Rel.wipe re h8 r.lσ hσ
          · have Gm := Good.mut (old := [(ty, k')]) (more := []) (ts' := acc ++ [ty]) (j := k'.succ) Ge1 (Dp.succ_pos _) (fun u hu => ?_) (fun p hp => nomatch hp) (fun b hb => ?_) (fun b => ?_)
            · rw [vals_app] at Gm
              have Gm' : Good c.K H0 IO SR (upd He D (.lst (vals acc ++ [ty.val]))) ((.lst D (acc ++ [ty]), k'.succ) :: (slots gb' τe ++ ((ws.drop (i + 1)).flatMap IW.hold ++ R))) := Gm
              exact Gm'.inR1.weakS fun i => leO_trans (h8 i) (kill_le gb' own i)
            · rcases List.mem_append.mp hu with hu | hu
              · exact oks_iff.mp oD'.2 u hu
              · rw [List.mem_singleton.mp hu]
                exact Ge.ok _ List.mem_cons_self
            · rw [Dp.pred_succ] at hb ⊢
              rw [show hOwn ([] : Hold) = [] from rfl, List.append_nil, owns_flat, List.flatMap_append] at hb
              rcases List.mem_append.mp hb with hb | hb
              · exact .inl (by rw [owns_flat]; exact hb)
              · exact .inr (by simpa [hOwn] using hb)
            · rw [las_app, List.count_append]
              simp [hLa, T.las]
          · rw [dats_app]
            exact ci
          · have : j ∉ mutsL cs ∧ j ∉ muts e := ⟨fun z => hj (List.mem_append_left _ z), fun z => hj (List.mem_append_right _ z)⟩
            rw [fe j this.2, fc j this.1, fb j (fun z => hjo (h4 j z)), fi j hj hjo]
        · cases ci
      | false =>
        rw [if_neg (by decide)]
        simp only [Bool.false_eq_true, if_false, Option.some.injEq, Prod.mk.injEq] at cb
        obtain ⟨rfl, rfl⟩ := cb
        refine ⟨ρc, τc, acc, Rel.wipe rc h9 r.lσ hσ, ?_, ci, fun j hj hjo => ?_⟩
        · exact Gc.weakS fun i => leO_trans (h9 i) (kill_le ga' own i)
        · have : j ∉ mutsL cs ∧ j ∉ muts e := ⟨fun z => hj (List.mem_append_left _ z), fun z => hj (List.mem_append_right _ z)⟩
          rw [fc j this.1, fb j (fun z => hjo (h4 j z)), fi j hj hjo]
    · have e : i = ws.length := by omega
      subst e
      refine .inl ⟨WJ.stop Hi C, ?_⟩
      have dn : xs.drop ws.length = [] := by rw [ew]; exact List.drop_eq_nil_of_le (by simp)
      rw [dn] at ci
      simp only [compD, Option.some.injEq, Prod.mk.injEq] at ci
      obtain ⟨rfl, rfl⟩ := ci
      have l0 : τ.length = τi.length := r.lτ.trans ri.lτ.symm
      have mx : ∀ i k, gD g' i = some k → oD (mixT own τ τi) i = oD τi i := fun i k e => by
        rw [mixT_get l0, if_neg (alive i k e).1]
      have r3 : Rel n (wipeD ρi own) g' (mixT own τ τi) σ := by
        refine (ri.tau mixT_len mx).sig r.lσ fun i k e => ?_
        rw [wipe_get, if_neg (alive i k e).1]
      have G3 : Good c.K H0 IO SR Hi ((.lst D acc, k'.succ) :: (slots g' (mixT own τ τi) ++ R)) := by
        rw [slots_tau mixT_len mx]
        have q : Good c.K H0 IO SR Hi ((ws.drop ws.length).flatMap IW.hold ++ ((.lst D acc, k'.succ) :: (slots g' τi ++ R))) := by
          refine Gi.perm ?_
          refine List.perm_middle.trans ?_
          refine List.Perm.trans (List.Perm.cons _ ?_) List.perm_middle.symm
          exact perm3 ..
        exact q.dropL
      have fr : ∀ j, j ∉ muts (.compO t own s0 cs e) → oD (mixT own τ τi) j = oD τ j := fun j hj => by
        rw [mixT_get l0]
        split
        · rfl
        · rename_i m
          have hj' : j ≠ s0 ∧ j ∉ mutsL cs ++ muts e := by
            unfold muts at hj
            exact ⟨fun z => hj (by rw [z]; exact List.mem_cons_self), fun z => hj (List.mem_cons_of_mem _ z)⟩
          rw [fi j hj'.2 m, ← hτ1, oD_set_ne (Ne.symm hj'.1)]
      exact hQ (mixT own τ τi) (.lst D acc) Hi r3 G3 rfl fr
end
end OH

namespace OH
open PySem PySem.Spec PyProof.Rows L2
section
variable {cl : Calls} {sg : Nat → Sig} {H0 : Hp} {IO SR : List Addr}
variable {K : PySem.W.Frag} {H H' : Hp} {R : Hold} {g g' : Gam} {τ τ' : Tau} {t : T} {k : Dp} {n : Nat} {ρ : REnv} {σ σ' : L2.St}
theorem back_dom {g h : Gam} : ∀ i k, gD (back g h) i = some k → (∃ k1, gD h i = some k1) ∧ gD g i = some k := fun i k e => by
  rw [gD_back] at e
  cases eg : gD h i with
  | none => rw [eg] at e; cases e
  | some k1 => rw [eg] at e; exact ⟨⟨k1, rfl⟩, e⟩
/-- back to what was known, where nothing was changed -/
theorem Good.back {N : Hold} {g1 : Gam} (G0 : Good K H0 IO SR H (slots g τ ++ R)) (G1 : Good K H0 IO SR H' (N ++ (slots g1 τ' ++ R))) (hN : ∀ p ∈ N, p.2 = .om) (len : τ'.length = τ.length) (h : ∀ i, oD τ' i = oD τ i) : Good K H0 IO SR H' (N ++ (slots (OH.back g g1) τ' ++ R)) :=
  Good.restore G0 G1 hN len fun i k _ e => by
    obtain ⟨⟨k1, e1⟩, e2⟩ := back_dom i k e
    exact ⟨k1, e1, .inr ⟨e2, h i⟩⟩
theorem ev_atom {e : E} {v : V} {d : D} {t : T} (hv : t.val = v) (hd : t.dat = d) (hl : T.la t = []) (hok : ∀ K H, T.ok K H t) (hm : muts e = []) (ht : ∀ g, ty sg e g = some (.om, g)) (he : ∀ ρ, ev cl e ρ = some (d, ρ)) (hE : ∀ c σ H Q, tE c e σ H Q = Q v H) : EvP cl sg H0 IO SR e := by
  intro c n ρ g τ σ H d' ρ' k g' R Q hc h1 h2 r G hQ
  rw [ht] at h1
  rw [he] at h2
  cases h1; cases h2
  rw [hE, ← hv]
  exact hQ τ t H r (G.plain (hok _ _) hl) hd fun _ _ => rfl
theorem ev_var (i : Nat) : EvP cl sg H0 IO SR (.var i) := by
  intro c n ρ g τ σ H d ρ' k g' R Q hc ht hv r G hQ
  simp only [ty, Option.map_eq_some_iff] at ht
  obtain ⟨k0, e0, ht⟩ := ht
  cases ht
  simp only [ev, Option.map_eq_some_iff] at hv
  obtain ⟨d', ed, hv⟩ := hv
  cases hv
  have hi : i < n := by rw [← r.lρ]; exact oD_lt ed
  obtain ⟨t, h1, h2, h3⟩ := r.at_ i k0 hi e0
  have ed' : d = t.dat := Option.some.inj (ed.symm.trans h2)
  refine ⟨t.val, h3, hQ τ t H (r.dom fun j k e => ?_) ?_ ed'.symm fun _ _ => rfl⟩
  · by_cases c : i = j
    · subst c; exact ⟨_, e0⟩
    · rw [show gD (g.set i _) j = gD g j from oD_set_ne c] at e
      exact ⟨_, e⟩
  · have G1 : Good c.K H0 IO SR H ((t, .fin 0) :: (t, .fin 0) :: (slots (g.set i none) τ ++ R)) := (G.take e0 h1).look
    have G2 : Good c.K H0 IO SR H ((t, .fin 0) :: (slots (g.set i none) τ ++ ((t, .fin 0) :: R))) := G1.perm (List.Perm.cons _ List.perm_middle.symm)
    exact (take_put G2 h1).perm List.perm_middle
theorem ev_mov (i : Nat) : EvP cl sg H0 IO SR (.mov i) := by
  intro c n ρ g τ σ H d ρ' k g' R Q hc ht hv r G hQ
  simp only [ty, Option.map_eq_some_iff] at ht
  obtain ⟨k0, e0, ht⟩ := ht
  cases ht
  simp only [ev, Option.map_eq_some_iff] at hv
  obtain ⟨d', ed, hv⟩ := hv
  cases hv
  have hi : i < n := by rw [← r.lρ]; exact oD_lt ed
  obtain ⟨t, h1, h2, h3⟩ := r.at_ i k hi e0
  have ed' : d = t.dat := Option.some.inj (ed.symm.trans h2)
  refine ⟨t.val, h3, hQ τ t H (r.dom fun j k e => ?_) (G.take e0 h1) ed'.symm fun _ _ => rfl⟩
  by_cases c : i = j
  · subst c; rw [show gD (g.set i none) i = none from oD_set_none] at e; cases e
  · rw [show gD (g.set i _) j = gD g j from oD_set_ne c] at e
    exact ⟨_, e⟩
def isSp : Op → Bool | .index => true | .count => true | .sl true true => true | _ => false
theorem tOpN_gen {o : Op} {ts : List TE} (h : isSp o = false) : tOpN K o ts = fun σ H Q => seqT ts σ H fun vs H1 => rO K o vs H1 Q := by
  cases o <;> first | rfl | (simp [isSp] at h; done) | skip
  rename_i lo hi
  cases lo <;> cases hi <;> first | rfl | (simp [isSp] at h; done)
theorem ty_op {o : Op} {es : List E} (h : ty sg (.op o es) g = some (k, g')) : ∃ ks g1, tyo sg es g = some (ks, g1) ∧ (o.keeps = true → hasVin es = false) ∧ ((o.dp ks = .om ∧ mutsL es = [] ∧ k = .om ∧ g' = back g g1) ∨ (k = o.dp ks ∧ g' = g1)) := by
  simp only [ty] at h
  split at h
  · cases h
  · rename_i c
    simp only [Option.map_eq_some_iff] at h
    obtain ⟨⟨ks, g1⟩, h1, h⟩ := h
    refine ⟨ks, g1, h1, fun hk => ?_, ?_⟩
    · rw [hk] at c; simpa using c
    · simp only at h
      split at h
      · rename_i c2
        cases h
        exact .inl ⟨c2.1, c2.2, rfl, rfl⟩
      · cases h
        exact .inr ⟨rfl, rfl⟩
/-- the end of an operator's reading -/
theorem op_fin {o : Op} {es : List E} {c : TC} {ks : List Dp} {g1 : Gam} {ρ1 : REnv} {d : D} {ts : List T} {Q : VK} (hk : o.keeps = true → hasVin es = false) (alt : (o.dp ks = .om ∧ mutsL es = [] ∧ k = .om ∧ g' = back g g1) ∨ (k = o.dp ks ∧ g' = g1)) (hd : opD o (T.dats ts) = some d)
    (r0 : τ'.length = τ.length) (G0 : Good c.K H0 IO SR H (slots g τ ++ R)) (r1 : Rel n ρ1 g1 τ' σ) (G1 : Good c.K H0 IO SR H' (opHold es ts ks ++ (slots g1 τ' ++ R))) (os : OpS es ts ks g1 τ') (fr : ∀ i, i ∉ mutsL es → oD τ' i = oD τ i)
    (hQ : ∀ τ' t H', Rel n ρ1 g' τ' σ → Good c.K H0 IO SR H' ((t, k) :: (slots g' τ' ++ R)) → t.dat = d → (∀ i, i ∉ mutsL es → oD τ' i = oD τ i) → Q t.val H') : rO c.K o (vals ts) H' Q := by
  refine op_ok (olds := opHold es ts ks) hd rfl (os.src G1 fun i t a b => slots_ok G1 a b) (fun h => opHold_zip (hk h) os.l1) G1 fun t' H2 G2 ed => ?_
  rcases alt with ⟨e1, e2, e3, e4⟩ | ⟨e1, e2⟩
  · subst e3; subst e4
    rw [e1] at G2
    have fr' : ∀ i, oD τ' i = oD τ i := fun i => fr i (by rw [e2]; exact List.not_mem_nil)
    refine hQ τ' t' H2 (r1.dom fun i k e => (back_dom i k e).1) (Good.back (N := [(t', .om)]) G0 G2 (fun p hp => by rw [List.mem_singleton.mp hp]) r0 fr') ed fr
  · subst e1; subst e2
    exact hQ τ' t' H2 r1 G2 ed fr
theorem ev_op {o : Op} {es : List E} (hs : isSp o = false) (hE : EvoP cl sg H0 IO SR es) : EvP cl sg H0 IO SR (.op o es) := by
  intro c n ρ g τ σ H d ρ' k g' R Q hc ht hv r G hQ
  obtain ⟨ks, g1, h1, hk, alt⟩ := ty_op ht
  simp only [ev] at hv
  obtain ⟨⟨ds, ρ1⟩, hv1, hv⟩ := Option.bind_eq_some_iff.mp hv
  simp only [Option.map_eq_some_iff] at hv
  obtain ⟨d', hd, hv⟩ := hv
  cases hv
  show tOpN c.K o (tEl c es) σ H Q
  rw [tOpN_gen hs]
  refine hE c n ρ g τ σ H ds _ ks g1 R _ hc h1 hv1 r G fun τ1 ts H1 r1 G1 eds os fr1 => ?_
  subst eds
  exact op_fin hk alt hd (r1.lτ.trans r.lτ.symm) G r1 G1 os fr1 hQ
/-- the two parts of a first operand and the others -/
theorem evo_two {e : E} {es : List E} (he : isVin e = false → EvP cl sg H0 IO SR e) (hes : EvoP cl sg H0 IO SR es) {c : TC} {d : D} {dr : List D} {ρ1 ρ2 : REnv} {ks : List Dp} {g2 : Gam} {I : V → Hp → Prop} {Q : List V → Hp → Prop} (hc : CallOk cl sg c) (ht : tyo sg (e :: es) g = some (ks, g2)) (hv : ev cl e ρ = some (d, ρ1)) (hv2 : evs cl es ρ1 = some (dr, ρ2)) (r : Rel n ρ g τ σ) (G : Good c.K H0 IO SR H (slots g τ ++ R))
    (hI : ∀ t H, T.ok c.K H t → t.dat = d → I t.val H)
    (hQ : ∀ τ' t ts H', Rel n ρ2 g2 τ' σ → Good c.K H0 IO SR H' (opHold (e :: es) (t :: ts) ks ++ (slots g2 τ' ++ R)) → T.dats (t :: ts) = d :: dr → OpS (e :: es) (t :: ts) ks g2 τ' → (∀ i, i ∉ mutsL (e :: es) → oD τ' i = oD τ i) → Q (t.val :: vals ts) H') :
    tE c e σ H fun x H1 => I x H1 ∧ seqT (tEl c es) σ H1 fun vs H2 => Q (x :: vs) H2 := by
  refine evo_step he hc ht hv r G fun τ1 t H1 g1 k1 kr hh e1 ek r1 G1 ed ok fr hop hvin => ⟨hI t H1 ok ed, ?_⟩
  subst ek
  refine hes c n ρ1 g1 τ1 σ H1 dr _ kr g2 (hh ++ R) _ hc e1 hv2 r1 G1 fun τ2 ts H2 r2 G2 eds os fr2 => ?_
  refine hQ τ2 t ts H2 r2 ?_ (by unfold T.dats; rw [ed, eds]) ⟨by simp [os.l1], by simp [os.l2], fun j i k h1 h2 => ?_, fun j i h1 => ?_⟩ fun i hi => ?_
  · rw [hop, List.append_assoc]
    exact G2.perm ((List.Perm.append_left _ (perm3 ..)).trans (perm3 ..))
  · cases j with
    | zero =>
      simp only [List.getElem?_cons_zero, Option.some.injEq] at h1 h2
      rw [← h2]; exact (hvin i h1).1
    | succ j => exact os.vk j i k (by simpa using h1) (by simpa using h2)
  · cases j with
    | zero =>
      simp only [List.getElem?_cons_zero, Option.some.injEq] at h1
      obtain ⟨_, h3, h4, h5⟩ := hvin i h1
      exact ⟨by rw [fr2 i h4]; exact h3.symm, h5⟩
    | succ j =>
      have := os.vok j i (by simpa using h1)
      exact ⟨by simpa using this.1, this.2⟩
  · have hi' : i ∉ muts e ∧ i ∉ mutsL es := by
      unfold mutsL at hi
      exact ⟨fun z => hi (List.mem_append_left _ z), fun z => hi (List.mem_append_right _ z)⟩
    rw [fr2 i hi'.2, fr i hi'.1]
theorem evs_cons {e : E} {es : List E} {ds : List D} {ρ2 : REnv} (h : evs cl (e :: es) ρ = some (ds, ρ2)) : ∃ d dr ρ1, ev cl e ρ = some (d, ρ1) ∧ evs cl es ρ1 = some (dr, ρ2) ∧ ds = d :: dr := by
  simp only [evs] at h
  obtain ⟨⟨d, ρ1⟩, h1, h⟩ := Option.bind_eq_some_iff.mp h
  simp only [Option.map_eq_some_iff] at h
  obtain ⟨⟨dr, ρ3⟩, h2, h⟩ := h
  cases h
  exact ⟨d, dr, ρ1, h1, h2, rfl⟩
theorem tyV_lst {t : T} {xs : List D} (ok : T.ok K H t) (h : t.dat = .lst xs) : tyV K "list" t.val H := by
  obtain ⟨a, ts, rfl, _⟩ := dat_lst h
  unfold T.ok at ok
  exact .inl ⟨rfl, _, SqL.of ok.1⟩
theorem ev_index {e : E} {es : List E} (he : isVin e = false → EvP cl sg H0 IO SR e) (hes : EvoP cl sg H0 IO SR es) : EvP cl sg H0 IO SR (.op .index (e :: es)) := by
  intro c n ρ g τ σ H d ρ' k g' R Q hc ht hv r G hQ
  obtain ⟨ks, g1, h1, hk, alt⟩ := ty_op ht
  simp only [ev] at hv
  obtain ⟨⟨ds, ρ1⟩, hv1, hv⟩ := Option.bind_eq_some_iff.mp hv
  simp only [Option.map_eq_some_iff] at hv
  obtain ⟨d', hd, hv⟩ := hv
  cases hv
  obtain ⟨d0, dr, ρ0, hv2, hv3, eds⟩ := evs_cons hv1
  have hl : ∃ xs, d0 = .lst xs := by
    subst eds
    simp only [opD] at hd
    split at hd
    · rename_i e; cases e; exact ⟨_, rfl⟩
    · cases hd
  obtain ⟨xs, rfl⟩ := hl
  refine evo_two (Q := fun vs H2 => rO c.K .index vs H2 Q) he hes hc h1 hv2 hv3 r G (fun t H ok ed => tyV_lst ok ed) fun τ1 t ts H1 r1 G1 ed os fr1 => ?_
  rw [eds, ← ed] at hd
  exact op_fin (ts := t :: ts) hk alt hd (r1.lτ.trans r.lτ.symm) G r1 G1 os fr1 hQ
theorem ev_count {e : E} {es : List E} (he : isVin e = false → EvP cl sg H0 IO SR e) (hes : EvoP cl sg H0 IO SR es) : EvP cl sg H0 IO SR (.op .count (e :: es)) := by
  intro c n ρ g τ σ H d ρ' k g' R Q hc ht hv r G hQ
  obtain ⟨ks, g1, h1, hk, alt⟩ := ty_op ht
  simp only [ev] at hv
  obtain ⟨⟨ds, ρ1⟩, hv1, hv⟩ := Option.bind_eq_some_iff.mp hv
  simp only [Option.map_eq_some_iff] at hv
  obtain ⟨d', hd, hv⟩ := hv
  cases hv
  obtain ⟨d0, dr, ρ0, hv2, hv3, eds⟩ := evs_cons hv1
  have hl : ∃ xs, d0 = .lst xs := by
    subst eds
    simp only [opD] at hd
    split at hd
    · rename_i e; cases e; exact ⟨_, rfl⟩
    · cases hd
  obtain ⟨xs, rfl⟩ := hl
  refine evo_two (Q := fun vs H2 => rO c.K .count vs H2 Q) he hes hc h1 hv2 hv3 r G (fun t H ok ed => tyV_lst ok ed) fun τ1 t ts H1 r1 G1 ed os fr1 => ?_
  rw [eds, ← ed] at hd
  exact op_fin (ts := t :: ts) hk alt hd (r1.lτ.trans r.lτ.symm) G r1 G1 os fr1 hQ

def seqJ (I : Nat → V → Hp → Prop) : Nat → List TE → TA
  | _, [] => tNil
  | j, t :: ts => fun σ H Q => t σ H fun x H1 => I j x H1 ∧ seqJ I (j + 1) ts σ H1 fun vs H2 => Q (x :: vs) H2
theorem evoJ {I : Nat → V → Hp → Prop} : ∀ {es : List E} {j0 : Nat} {c : TC} {n : Nat} {ρ : REnv} {g : Gam} {τ : Tau} {σ : L2.St} {H : Hp} {ds : List D} {ρ' : REnv} {ks : List Dp} {g' : Gam} {R : Hold} {Q : List V → Hp → Prop}, (∀ e ∈ es, EvP cl sg H0 IO SR e) → CallOk cl sg c → tyo sg es g = some (ks, g') → evs cl es ρ = some (ds, ρ') → Rel n ρ g τ σ → Good c.K H0 IO SR H (slots g τ ++ R) →
    (∀ j t H d, T.ok c.K H t → t.dat = d → ds[j]? = some d → I (j0 + j) t.val H) →
    (∀ τ' ts H', Rel n ρ' g' τ' σ → Good c.K H0 IO SR H' (opHold es ts ks ++ (slots g' τ' ++ R)) → T.dats ts = ds → OpS es ts ks g' τ' → (∀ i, i ∉ mutsL es → oD τ' i = oD τ i) → Q (vals ts) H') → seqJ I j0 (tEl c es) σ H Q
  | [], j0, c, n, ρ, g, τ, σ, H, ds, ρ', ks, g', R, Q, _, hc, ht, hv, r, G, _, hQ => evo_nil c n ρ g τ σ H ds ρ' ks g' R Q hc ht hv r G hQ
  | e :: es, j0, c, n, ρ, g, τ, σ, H, ds, ρ', ks, g', R, Q, he, hc, ht, hv, r, G, hI, hQ => by
    obtain ⟨d, dr, ρ1, hv1, hv2, eds⟩ := evs_cons hv
    subst eds
    refine evo_step (fun _ => he e List.mem_cons_self) hc ht hv1 r G fun τ1 t H1 g1 k1 kr hh e1 ek r1 G1 ed ok fr hop hvin => ⟨hI 0 t H1 d ok ed rfl, ?_⟩
    subst ek
    refine evoJ (es := es) (j0 := j0 + 1) (fun e h => he e (List.mem_cons_of_mem _ h)) hc e1 hv2 r1 G1 (fun j t H d a b q => by
      have := hI (j + 1) t H d a b (by simpa using q)
      rw [show j0 + 1 + j = j0 + (j + 1) by omega]; exact this) fun τ2 ts H2 r2 G2 eds os fr2 => ?_
    refine hQ τ2 (t :: ts) H2 r2 ?_ (by unfold T.dats; rw [ed, eds]) ⟨by simp [os.l1], by simp [os.l2], fun j i k h1 h2 => ?_, fun j i h1 => ?_⟩ fun i hi => ?_
    · rw [hop, List.append_assoc]
      exact G2.perm ((List.Perm.append_left _ (perm3 ..)).trans (perm3 ..))
    · cases j with
      | zero =>
        simp only [List.getElem?_cons_zero, Option.some.injEq] at h1 h2
        rw [← h2]; exact (hvin i h1).1
      | succ j => exact os.vk j i k (by simpa using h1) (by simpa using h2)
    · cases j with
      | zero =>
        simp only [List.getElem?_cons_zero, Option.some.injEq] at h1
        obtain ⟨_, h3, h4, h5⟩ := hvin i h1
        exact ⟨by rw [fr2 i h4]; exact h3.symm, h5⟩
      | succ j =>
        have := os.vok j i (by simpa using h1)
        exact ⟨by simpa using this.1, this.2⟩
    · have hi' : i ∉ muts e ∧ i ∉ mutsL es := by
        unfold mutsL at hi
        exact ⟨fun z => hi (List.mem_append_left _ z), fun z => hi (List.mem_append_right _ z)⟩
      rw [fr2 i hi'.2, fr i hi'.1]
theorem evo_of : ∀ {es : List E}, (∀ e ∈ es, EvP cl sg H0 IO SR e) → EvoP cl sg H0 IO SR es
  | [], _ => evo_nil
  | e :: es, h => evo_cons (fun _ => h e List.mem_cons_self) (evo_of fun e' h' => h e' (List.mem_cons_of_mem _ h'))
theorem evc_of : ∀ {cs : List E}, (∀ e ∈ cs, EvP cl sg H0 IO SR e) → EvcP cl sg H0 IO SR cs
  | [], _ => by
    intro c n ρ g τ σ H b ρ' g' R Q hc ht hv r G hQ
    simp only [tyc, Option.some.injEq] at ht
    simp only [evc, Option.some.injEq, Prod.mk.injEq] at hv
    obtain ⟨rfl, rfl⟩ := hv
    subst ht
    exact hQ τ H r G fun _ _ => rfl
  | [e], h => by
    intro c n ρ g τ σ H b ρ' g' R Q hc ht hv r G hQ
    simp only [tyc, Option.map_eq_some_iff] at ht
    obtain ⟨⟨k, g1⟩, ht, e1⟩ := ht
    cases e1
    simp only [evc] at hv
    obtain ⟨⟨d, ρ1⟩, hv, e2⟩ := Option.bind_eq_some_iff.mp hv
    show tE c e σ H fun x H1 => ∃ k, x = .bl k ∧ Q k H1
    refine h e List.mem_cons_self c n ρ g τ σ H d ρ1 k _ R _ hc ht hv r G fun τ1 t H1 r1 G1 ed fr => ?_
    simp only at e2
    split at e2 <;> cases e2
    rw [dat_bl ed]
    refine ⟨b, rfl, hQ τ1 H1 r1 G1.drop fun i hi => fr i ?_⟩
    unfold mutsL at hi
    exact fun z => hi (List.mem_append_left _ z)
  | _ :: _ :: _, h => by
    intro c n ρ g τ σ H b ρ' g' R Q hc ht hv r G hQ
    simp [tyc] at ht
theorem ev_sl3 {e1 e2 e3 : E} (he : ∀ e ∈ [e1, e2, e3], EvP cl sg H0 IO SR e) : EvP cl sg H0 IO SR (.op (.sl true true) [e1, e2, e3]) := by
  intro c n ρ g τ σ H d ρ' k g' R Q hc ht hv r G hQ
  obtain ⟨ks, g1, h1, hk, alt⟩ := ty_op ht
  simp only [ev] at hv
  obtain ⟨⟨ds, ρ1⟩, hv1, hv⟩ := Option.bind_eq_some_iff.mp hv
  simp only [Option.map_eq_some_iff] at hv
  obtain ⟨d', hd, hv⟩ := hv
  cases hv
  have hl : ∃ xs a b, ds = [.lst xs, .int a, .int b] := by
    simp only [opD] at hd
    split at hd
    · exact ⟨_, _, _, rfl⟩
    · cases hd
  obtain ⟨xs, a, b, eds⟩ := hl
  have q : seqJ (fun j x _ => if j = 0 then True else ∃ i : Int, x = .int i) 0 (tEl c [e1, e2, e3]) σ H fun vs H1 => rO c.K (.sl true true) vs H1 Q := by
    refine evoJ he hc h1 hv1 r G (fun j t H d ok ed hj => ?_) fun τ1 ts H1 r1 G1 ed os fr1 => ?_
    · rw [eds] at hj
      rw [Nat.zero_add]
      match j, hj with
      | 0, _ => trivial
      | 1, hj =>
        have e : T.dat t = .int a := ed.trans (Option.some.inj hj).symm
        rw [dat_int e, if_neg (by decide)]; exact ⟨_, rfl⟩
      | 2, hj =>
        have e : T.dat t = .int b := ed.trans (Option.some.inj hj).symm
        rw [dat_int e, if_neg (by decide)]; exact ⟨_, rfl⟩
      | j + 3, hj => simp at hj
    · subst ed
      exact op_fin hk alt hd (r1.lτ.trans r.lτ.symm) G r1 G1 os fr1 hQ
  show tE c e1 σ H fun x H1 => tE c e2 σ H1 fun y H2 => ∃ i, y = .int i ∧ tE c e3 σ H2 fun z H3 => ∃ j, z = .int j ∧ (rSlL c.K x (some i) (some j) H3 Q ∨ rSlA c.K x (some i) (some j) H3 Q)
  have q' : tE c e1 σ H fun x H1 => True ∧ tE c e2 σ H1 fun y H2 => (∃ i : Int, y = .int i) ∧ tE c e3 σ H2 fun z H3 => (∃ i : Int, z = .int i) ∧ (∃ i j, y = .int i ∧ z = .int j ∧ (rSlL c.K x (some i) (some j) H3 Q ∨ rSlA c.K x (some i) (some j) H3 Q)) := q
  refine cast (congrArg (tE c e1 σ H) (funext fun x => funext fun H1 => ?_)) q'
  rw [true_and]
  refine congrArg (tE c e2 σ H1) (funext fun y => funext fun H2 => ?_)
  apply propext
  constructor
  · rintro ⟨⟨i, rfl⟩, w⟩
    refine ⟨i, rfl, cast (congrArg (tE c e3 σ H2) (funext fun z => funext fun H3 => propext ⟨?_, ?_⟩)) w⟩
    · rintro ⟨⟨j, rfl⟩, i', j', e1, e2, w⟩
      cases e1; cases e2
      exact ⟨j, rfl, w⟩
    · rintro ⟨j, rfl, w⟩
      exact ⟨⟨j, rfl⟩, i, j, rfl, rfl, w⟩
  · rintro ⟨i, rfl, w⟩
    refine ⟨⟨i, rfl⟩, cast (congrArg (tE c e3 σ H2) (funext fun z => funext fun H3 => propext ⟨?_, ?_⟩)) w⟩
    · rintro ⟨j, rfl, w⟩
      exact ⟨⟨j, rfl⟩, i, j, rfl, rfl, w⟩
    · rintro ⟨⟨j, rfl⟩, i', j', e1, e2, w⟩
      cases e1; cases e2
      exact ⟨j, rfl, w⟩
end
end OH

namespace OH
open PySem PySem.Spec PyProof.Rows L2
mutual
/-- no strict zip within -/
def zipOk : E → Bool
  | .op _ es => zipOkL es
  | .chn a _ b _ d => zipOk a && zipOk b && zipOk d
  | .and a b => zipOk a && zipOk b
  | .or a b => zipOk a && zipOk b
  | .not a => zipOk a
  | .scal a => zipOk a
  | .tall _ a => zipOk a
  | .compO _ _ _ cs e => zipOkL cs && zipOk e
  | .appR _ e => zipOk e
  | .ite x a b => zipOk x && zipOk a && zipOk b
  | .call _ es => zipOkL es
  | .callk _ es _ => zipOkL es
  | .app _ e => zipOk e
  | .popi _ e => zipOk e
  | .comp _ _ k es cs e => (k != .zip true) && zipOkL es && zipOkL cs && zipOk e
  | .comp2 _ _ k es cs _ _ k2 es2 cs2 e => (k != .zip true) && (k2 != .zip true) && zipOkL es && zipOkL cs && zipOkL es2 && zipOkL cs2 && zipOk e
  | _ => true
def zipOkL : List E → Bool
  | [] => true
  | e :: es => zipOk e && zipOkL es
end
section
variable {cl : Calls} {sg : Nat → Sig} {H0 : Hp} {IO SR : List Addr}
variable {K : PySem.W.Frag} {H H' : Hp} {R : Hold} {g g' : Gam} {τ τ' : Tau} {t : T} {k : Dp} {n : Nat} {ρ : REnv} {σ σ' : L2.St}
theorem Good.weakB (G : Good K H0 IO SR H ((t, k) :: (slots g τ ++ R))) {k' : Dp} (hk : k'.le k = true) (hg : GLe g' g) : Good K H0 IO SR H ((t, k') :: (slots g' τ ++ R)) := by
  have G1 := (G.weak hk).inR1
  exact (G1.weakS hg).perm List.perm_middle
theorem notm {a b : List Nat} {i : Nat} (h : i ∉ a ++ b) : i ∉ a ∧ i ∉ b := ⟨fun z => h (List.mem_append_left _ z), fun z => h (List.mem_append_right _ z)⟩
theorem atomBl (G : Good K H0 IO SR H (slots g τ ++ R)) (b : Bool) : Good K H0 IO SR H ((.bl b, k) :: (slots g τ ++ R)) := G.plain (by simp [T.ok]) (by simp [T.la])
theorem ev_and {a b : E} (ha : EvP cl sg H0 IO SR a) (hb : EvP cl sg H0 IO SR b) : EvP cl sg H0 IO SR (.and a b) := by
  intro c n ρ g τ σ H d ρ' k g' R Q hc ht hv r G hQ
  simp only [ty] at ht
  obtain ⟨⟨k1, g1⟩, h1, ht⟩ := Option.bind_eq_some_iff.mp ht
  simp only [Option.map_eq_some_iff] at ht
  obtain ⟨⟨k2, g2⟩, h2, ht⟩ := ht
  cases ht
  simp only [ev] at hv
  obtain ⟨⟨x, ρ1⟩, hv1, hv⟩ := Option.bind_eq_some_iff.mp hv
  show tE c a σ H fun x H1 => ∃ c0, x = .bl c0 ∧ if c0 = true then tE c b σ H1 Q else Q (.bl false) H1
  refine ha c n ρ g τ σ H x ρ1 k1 g1 R _ hc h1 hv1 r G fun τ1 t1 H1 r1 G1 ed1 fr1 => ?_
  simp only at hv
  split at hv
  · rw [dat_bl ed1]
    refine ⟨true, rfl, ?_⟩
    rw [if_pos rfl]
    refine hb c n ρ1 g1 τ1 σ H1 d ρ' _ g2 R Q hc h2 hv r1 G1.drop fun τ2 t2 H2 r2 G2 ed2 fr2 => ?_
    exact hQ τ2 t2 H2 (r2.le (meet_r g1 g2)) (G2.weakB (Dp.le_refl _) (meet_r g1 g2)) ed2 fun i hi => by
      unfold muts at hi
      rw [fr2 i (notm hi).2, fr1 i (notm hi).1]
  · cases hv
    rw [dat_bl ed1]
    refine ⟨false, rfl, ?_⟩
    rw [if_neg (by decide)]
    exact hQ τ1 (.bl false) H1 (r1.le (meet_l g1 g2)) (atomBl (G1.drop.weakS (meet_l g1 g2)) false) (by simp [T.dat]) fun i hi => by
      unfold muts at hi
      rw [fr1 i (notm hi).1]
  · cases hv
theorem ev_or {a b : E} (ha : EvP cl sg H0 IO SR a) (hb : EvP cl sg H0 IO SR b) : EvP cl sg H0 IO SR (.or a b) := by
  intro c n ρ g τ σ H d ρ' k g' R Q hc ht hv r G hQ
  simp only [ty] at ht
  obtain ⟨⟨k1, g1⟩, h1, ht⟩ := Option.bind_eq_some_iff.mp ht
  simp only [Option.map_eq_some_iff] at ht
  obtain ⟨⟨k2, g2⟩, h2, ht⟩ := ht
  cases ht
  simp only [ev] at hv
  obtain ⟨⟨x, ρ1⟩, hv1, hv⟩ := Option.bind_eq_some_iff.mp hv
  show tE c a σ H fun x H1 => ∃ c0, x = .bl c0 ∧ if c0 = true then Q (.bl true) H1 else tE c b σ H1 Q
  refine ha c n ρ g τ σ H x ρ1 k1 g1 R _ hc h1 hv1 r G fun τ1 t1 H1 r1 G1 ed1 fr1 => ?_
  simp only at hv
  split at hv
  · cases hv
    rw [dat_bl ed1]
    refine ⟨true, rfl, ?_⟩
    rw [if_pos rfl]
    exact hQ τ1 (.bl true) H1 (r1.le (meet_l g1 g2)) (atomBl (G1.drop.weakS (meet_l g1 g2)) true) (by simp [T.dat]) fun i hi => by
      unfold muts at hi
      rw [fr1 i (notm hi).1]
  · rw [dat_bl ed1]
    refine ⟨false, rfl, ?_⟩
    rw [if_neg (by decide)]
    refine hb c n ρ1 g1 τ1 σ H1 d ρ' _ g2 R Q hc h2 hv r1 G1.drop fun τ2 t2 H2 r2 G2 ed2 fr2 => ?_
    exact hQ τ2 t2 H2 (r2.le (meet_r g1 g2)) (G2.weakB (Dp.le_refl _) (meet_r g1 g2)) ed2 fun i hi => by
      unfold muts at hi
      rw [fr2 i (notm hi).2, fr1 i (notm hi).1]
  · cases hv
theorem ev_not {a : E} (ha : EvP cl sg H0 IO SR a) : EvP cl sg H0 IO SR (.not a) := by
  intro c n ρ g τ σ H d ρ' k g' R Q hc ht hv r G hQ
  simp only [ty, Option.map_eq_some_iff] at ht
  obtain ⟨⟨k1, g1⟩, h1, ht⟩ := ht
  cases ht
  simp only [ev] at hv
  obtain ⟨⟨x, ρ1⟩, hv1, hv⟩ := Option.bind_eq_some_iff.mp hv
  show tE c a σ H fun x H1 => ∃ c0, x = .bl c0 ∧ Q (.bl (!c0)) H1
  refine ha c n ρ g τ σ H x ρ1 k1 _ R _ hc h1 hv1 r G fun τ1 t1 H1 r1 G1 ed1 fr1 => ?_
  simp only at hv
  split at hv <;> cases hv
  rw [dat_bl ed1]
  exact ⟨_, rfl, hQ τ1 (.bl _) H1 r1 (atomBl G1.drop _) (by simp [T.dat]) fr1⟩
theorem ev_ite {x a b : E} (hx : EvP cl sg H0 IO SR x) (ha : EvP cl sg H0 IO SR a) (hb : EvP cl sg H0 IO SR b) : EvP cl sg H0 IO SR (.ite x a b) := by
  intro c n ρ g τ σ H d ρ' k g' R Q hc ht hv r G hQ
  simp only [ty] at ht
  obtain ⟨⟨k1, g1⟩, h1, ht⟩ := Option.bind_eq_some_iff.mp ht
  obtain ⟨⟨k2, g2⟩, h2, ht⟩ := Option.bind_eq_some_iff.mp ht
  simp only [Option.map_eq_some_iff] at ht
  obtain ⟨⟨k3, g3⟩, h3, ht⟩ := ht
  cases ht
  simp only [ev] at hv
  obtain ⟨⟨d1, ρ1⟩, hv1, hv⟩ := Option.bind_eq_some_iff.mp hv
  show tE c x σ H fun x H1 => ∃ k, x = .bl k ∧ (if k = true then tE c a σ H1 Q else tE c b σ H1 Q)
  refine hx c n ρ g τ σ H d1 ρ1 k1 g1 R _ hc h1 hv1 r G fun τ1 t1 H1 r1 G1 ed1 fr1 => ?_
  simp only at hv
  split at hv
  · rw [dat_bl ed1]
    refine ⟨true, rfl, ?_⟩
    rw [if_pos rfl]
    refine ha c n ρ1 g1 τ1 σ H1 d ρ' k2 g2 R Q hc h2 hv r1 G1.drop fun τ2 t2 H2 r2 G2 ed2 fr2 => ?_
    exact hQ τ2 t2 H2 (r2.le (meet_l g2 g3)) (G2.weakB (Dp.mn_le_l k2 k3) (meet_l g2 g3)) ed2 fun i hi => by
      unfold muts at hi
      rw [fr2 i (notm (notm hi).1).2, fr1 i (notm (notm hi).1).1]
  · rw [dat_bl ed1]
    refine ⟨false, rfl, ?_⟩
    rw [if_neg (by decide)]
    refine hb c n ρ1 g1 τ1 σ H1 d ρ' k3 g3 R Q hc h3 hv r1 G1.drop fun τ2 t2 H2 r2 G2 ed2 fr2 => ?_
    exact hQ τ2 t2 H2 (r2.le (meet_r g2 g3)) (G2.weakB (Dp.mn_le_r k2 k3) (meet_r g2 g3)) ed2 fun i hi => by
      unfold muts at hi
      rw [fr2 i (notm hi).2, fr1 i (notm (notm hi).1).1]
  · cases hv
theorem cmp_ok {o : Op} {d1 d2 z : D} (h : isCmpO o = true) (e : opD o [d1, d2] = some z) : ∃ i j b, d1 = .int i ∧ d2 = .int j ∧ z = .bl b ∧ ∀ (K : PySem.W.Frag) (H : Hp) (Q : VK), Q (.bl b) H → rO K o [.int i, .int j] H Q := by
  cases o <;> first | (simp [isCmpO] at h; done) | skip
  all_goals
    simp only [opD] at e
    split at e
    · rename_i e2
      cases e2; cases e
      exact ⟨_, _, _, rfl, rfl, rfl, fun K H Q q => ⟨_, _, rfl, rfl, q⟩⟩
    · cases e
theorem ev_chn {a b x : E} {o1 o2 : Op} (ha : EvP cl sg H0 IO SR a) (hb : EvP cl sg H0 IO SR b) (hx : EvP cl sg H0 IO SR x) : EvP cl sg H0 IO SR (.chn a o1 b o2 x) := by
  intro c n ρ g τ σ H d ρ' k g' R Q hc ht hv r G hQ
  simp only [ty] at ht
  split at ht
  · rename_i hm
    obtain ⟨hm, ho1, ho2⟩ := hm
    obtain ⟨⟨k1, g1⟩, h1, ht⟩ := Option.bind_eq_some_iff.mp ht
    obtain ⟨⟨k2, g2⟩, h2, ht⟩ := Option.bind_eq_some_iff.mp ht
    simp only [Option.map_eq_some_iff] at ht
    obtain ⟨⟨k3, g3⟩, h3, ht⟩ := ht
    cases ht
    have m0 : (∀ i, i ∉ muts a) ∧ (∀ i, i ∉ muts b) ∧ ∀ i, i ∉ muts x := by
      refine ⟨fun i z => ?_, fun i z => ?_, fun i z => ?_⟩
      · have : i ∈ muts a ++ muts b ++ muts x := List.mem_append_left _ (List.mem_append_left _ z)
        rw [hm] at this; cases this
      · have : i ∈ muts a ++ muts b ++ muts x := List.mem_append_left _ (List.mem_append_right _ z)
        rw [hm] at this; cases this
      · have : i ∈ muts a ++ muts b ++ muts x := List.mem_append_right _ z
        rw [hm] at this; cases this
    simp only [ev] at hv
    obtain ⟨⟨d1, ρ1⟩, hv1, hv⟩ := Option.bind_eq_some_iff.mp hv
    obtain ⟨⟨d2, ρ2⟩, hv2, hv⟩ := Option.bind_eq_some_iff.mp hv
    obtain ⟨z, hz, hv⟩ := Option.bind_eq_some_iff.mp hv
    simp only at hz
    obtain ⟨i, j, bz, rfl, rfl, rfl, w1⟩ := cmp_ok ho1 hz
    show tE c a σ H fun x1 H1 => tE c b σ H1 fun y H2 => rO c.K o1 [x1, y] H2 fun z H3 => ∃ k, z = .bl k ∧ (if k = true then tE c x σ H3 fun w' H4 => rO c.K o2 [y, w'] H4 Q else Q (.bl false) H3)
    refine ha c n ρ g τ σ H _ ρ1 k1 g1 R _ hc h1 hv1 r G fun τ1 t1 H1 r1 G1 ed1 fr1 => ?_
    refine hb c n ρ1 g1 τ1 σ H1 _ ρ2 k2 g2 R _ hc h2 hv2 r1 G1.drop fun τ2 t2 H2 r2 G2 ed2 fr2 => ?_
    rw [dat_int ed1, dat_int ed2]
    refine w1 c.K H2 _ ⟨bz, rfl, ?_⟩
    have fin : ∀ {τ3 : Tau} {H3 : Hp} {ρ3 : REnv} {gg : Gam} {bb : Bool}, Rel n ρ3 gg τ3 σ → Good c.K H0 IO SR H3 (slots gg τ3 ++ R) → (∀ i, oD τ3 i = oD τ i) → GLe (meet g2 g3) gg → d = .bl bb → ρ' = ρ3 → Q (.bl bb) H3 := fun {τ3 H3 ρ3 gg bb} r3 G3 f3 gl e1 e2 => by
      subst e1; subst e2
      have G4 := atomBl (k := .om) (G3.weakS gl) bb
      refine hQ τ3 (.bl bb) H3 ((r3.le gl).dom fun i k e => (back_dom i k e).1) (Good.back (N := [(.bl bb, .om)]) G G4 (fun p hp => by rw [List.mem_singleton.mp hp]) (r3.lτ.trans r.lτ.symm) f3) (by simp [T.dat]) fun i _ => f3 i
    have f2 : ∀ i, oD τ2 i = oD τ i := fun i => by rw [fr2 i (m0.2.1 i), fr1 i (m0.1 i)]
    cases bz with
    | true =>
      rw [if_pos rfl]
      simp only at hv
      obtain ⟨⟨d3, ρ3⟩, hv3, hv⟩ := Option.bind_eq_some_iff.mp hv
      simp only [Option.map_eq_some_iff] at hv
      obtain ⟨z2, hz2, hv⟩ := hv
      cases hv
      obtain ⟨i2, j2, b2, e1, rfl, rfl, w2⟩ := cmp_ok ho2 hz2
      cases e1
      refine hx c n ρ2 g2 τ2 σ H2 _ ρ' k3 g3 R _ hc h3 hv3 r2 G2.drop fun τ3 t3 H3 r3 G3 ed3 fr3 => ?_
      rw [dat_int ed3]
      exact w2 c.K H3 _ (fin r3 G3.drop (fun i => by rw [fr3 i (m0.2.2 i), f2 i]) (meet_r g2 g3) rfl rfl)
    | false =>
      rw [if_neg (by decide)]
      simp only [Option.some.injEq, Prod.mk.injEq] at hv
      obtain ⟨rfl, rfl⟩ := hv
      exact fin r2 G2.drop f2 (meet_l g2 g3) rfl rfl
  · cases ht
theorem ev_scal {a : E} (ha : EvP cl sg H0 IO SR a) : EvP cl sg H0 IO SR (.scal a) := by
  intro c n ρ g τ σ H d ρ' k g' R Q hc ht hv r G hQ
  simp only [ty, Option.map_eq_some_iff] at ht
  obtain ⟨⟨k1, g1⟩, h1, ht⟩ := ht
  simp only [ev] at hv
  obtain ⟨⟨x, ρ1⟩, hv1, hv⟩ := Option.bind_eq_some_iff.mp hv
  show tE c a σ H Q
  refine ha c n ρ g τ σ H x ρ1 k1 g1 R _ hc h1 hv1 r G fun τ1 t1 H1 r1 G1 ed1 fr1 => ?_
  have hd : x = d ∧ ρ1 = ρ' ∧ T.la t1 = [] := by
    subst ed1
    simp only at hv
    cases t1 <;> simp only [T.dat, reduceCtorEq, Option.some.injEq, Prod.mk.injEq] at hv <;> exact ⟨hv.1, hv.2, by simp [T.la]⟩
  obtain ⟨rfl, rfl, hl⟩ := hd
  have G2 : Good c.K H0 IO SR H1 ((t1, .om) :: (slots g1 τ1 ++ R)) := G1.drop.plain (G1.ok _ List.mem_cons_self) hl
  simp only at ht
  split at ht
  · rename_i hm
    cases ht
    have f1 : ∀ i, oD τ1 i = oD τ i := fun i => fr1 i (by rw [hm]; exact List.not_mem_nil)
    exact hQ τ1 t1 H1 (r1.dom fun i k e => (back_dom i k e).1) (Good.back (N := [(t1, .om)]) G G2 (fun p hp => by rw [List.mem_singleton.mp hp]) (r1.lτ.trans r.lτ.symm) f1) ed1 fr1
  · cases ht
    exact hQ τ1 t1 H1 r1 G2 ed1 fr1
theorem isL_of {x : Option D} (h : isL x = true) : ∃ xs, x = some (.lst xs) := by
  unfold isL at h
  split at h
  · exact ⟨_, rfl⟩
  · cases h
theorem slot_lst {i : Nat} {xs : List D} (r : Rel n ρ g τ σ) (G : Good K H0 IO SR H (slots g τ ++ R)) (ha : (gD g i).isSome = true) (hx : getD ρ i = some (.lst xs)) : ∃ a ts k, oD τ i = some (.lst a ts) ∧ T.dats ts = xs ∧ σ[i]? = some (some (.ref a)) ∧ gD g i = some k ∧ T.ok K H (.lst a ts) := by
  obtain ⟨k, e⟩ := Option.isSome_iff_exists.mp ha
  have hi : i < n := by rw [← r.lρ]; exact oD_lt hx
  obtain ⟨t, h1, h2, h3⟩ := r.at_ i k hi e
  rw [hx] at h2
  obtain ⟨a, ts, rfl, h4⟩ := dat_lst (Option.some.inj h2).symm
  exact ⟨a, ts, k, h1, h4, h3, e, (G.take e h1).ok _ List.mem_cons_self⟩
theorem ev_app {i : Nat} {e : E} (he : EvP cl sg H0 IO SR e) : EvP cl sg H0 IO SR (.app i e) := by
  intro c n ρ g τ σ H d ρ' k g' R Q hc ht hv r G hQ
  simp only [ty] at ht
  split at ht
  · cases ht
  rename_i alive
  obtain ⟨⟨ke, g1⟩, h1, ht⟩ := Option.bind_eq_some_iff.mp ht
  obtain ⟨k0, e0, ht⟩ := Option.bind_eq_some_iff.mp ht
  simp only at ht e0
  by_cases hpos : k0.pos = true
  case neg => rw [if_neg hpos] at ht; cases ht
  rw [if_pos hpos] at ht
  cases ht
  simp only [ev] at hv
  split at hv
  · rename_i hL
    obtain ⟨xs0, hx0⟩ := isL_of hL
    obtain ⟨⟨y, ρ1⟩, hv1, hv⟩ := Option.bind_eq_some_iff.mp hv
    simp only at hv
    split at hv
    · rename_i xs hx
      split at hv <;> cases hv
      rename_i hlen
      obtain ⟨a, ts, k1, t1, _, hs, _, ok1⟩ := slot_lst r G (by cases h : gD g i <;> simp_all) hx0
      unfold T.ok at ok1
      refine ⟨.ref a, hs, .inl ⟨rfl, _, SqL.of ok1.1⟩, ?_⟩
      show tE c e σ H fun x H1 => rAppend (.ref a) [x] H1 Q
      refine he c n ρ g τ σ H y ρ1 ke g1 R _ hc h1 hv1 r G fun τ1 t1 H1 r1 G1 ed1 fr1 => ?_
      obtain ⟨a2, ts2, k2, h2, h3, h4, h5, ok2⟩ := slot_lst r1 G1.drop (by rw [e0]; rfl) hx
      rw [hs] at h4
      cases h4
      rw [e0] at h5; cases h5
      unfold T.ok at ok2
      rw [← h3, dats_len] at hlen
      refine ⟨a, vals ts2, t1.val, rfl, rfl, ok2.1, by rw [lim_eq]; simpa using hlen, ?_⟩
      have G2 : Good c.K H0 IO SR H1 ((.lst a ts2, k0) :: ([(t1, ke)] ++ (slots (g1.set i none) τ1 ++ R))) := by
        have q := G1.inR1.take e0 h2
        exact q.perm (List.Perm.cons _ List.perm_middle)
      have G3 := Good.mut (old := [(t1, ke)]) (more := []) (ts' := ts2 ++ [t1]) (j := k0.mn ke.succ) G2 hpos (fun u hu => ?_) (fun p hp => nomatch hp) (fun b hb => ?_) (fun b => ?_)
      · rw [vals_app] at G3
        have G3' : Good c.K H0 IO SR (upd H1 a (.lst (vals ts2 ++ [t1.val]))) ((.lst a (ts2 ++ [t1]), k0.mn ke.succ) :: (slots (g1.set i none) τ1 ++ R)) := G3
        have G4 := G3'.put (i := i)
        rw [List.set_set] at G4
        have ed2 : T.dat (.lst a (ts2 ++ [t1])) = .lst (xs ++ [y]) := by
          rw [T.dat, dats_app, h3, ← ed1]; rfl
        have r2 := Rel.mut r1 (u := .lst a (ts2 ++ [t1])) (k := k0.mn ke.succ) h2 hs rfl
        rw [ed2] at r2
        refine hQ _ .non _ r2 (G4.plain (by simp [T.ok]) (by simp [T.la])) rfl fun j hj => ?_
        have hj' : j ≠ i ∧ j ∉ muts e := by
          unfold muts at hj
          simpa using hj
        rw [oD_set_ne (Ne.symm hj'.1), fr1 j hj'.2]
      · rcases List.mem_append.mp hu with hu | hu
        · exact oks_iff.mp ok2.2 u hu
        · rw [List.mem_singleton.mp hu]; exact G1.ok _ List.mem_cons_self
      · rw [show hOwn ([] : Hold) = [] from rfl, List.append_nil, owns_flat, List.flatMap_append] at hb
        have le1 : (k0.mn ke.succ).pred.le k0.pred = true := Dp.le_pred (Dp.mn_le_l _ _)
        have le2 : (k0.mn ke.succ).pred.le ke = true := by
          have := Dp.le_pred (Dp.mn_le_r k0 ke.succ)
          rwa [Dp.pred_succ] at this
        rcases List.mem_append.mp hb with hb | hb
        · refine .inl (owns_mono le1 ts2 b ?_)
          rw [owns_flat]; exact hb
        · refine .inr ?_
          have hb' : b ∈ T.own t1 (k0.mn ke.succ).pred := by simpa using hb
          exact hOwn_mem.mpr ⟨(t1, ke), List.mem_singleton.mpr rfl, own_mono le2 _ _ hb'⟩
      · rw [las_app, List.count_append]
        simp [hLa, T.las]
    · cases hv
  · cases hv
theorem ev_tall {m : Nat} {a : E} (ha : EvP cl sg H0 IO SR a) : EvP cl sg H0 IO SR (.tall m a) := by
  intro c n ρ g τ σ H d ρ' k g' R Q hc ht hv r G hQ
  simp only [ty] at ht
  obtain ⟨⟨k1, g1⟩, h1, ht⟩ := Option.bind_eq_some_iff.mp ht
  simp only at ht
  split at ht <;> cases ht
  rename_i hk
  simp only [ev] at hv
  obtain ⟨⟨x, ρ1⟩, hv1, hv⟩ := Option.bind_eq_some_iff.mp hv
  simp only at hv
  split at hv <;> cases hv
  rename_i hh
  simp only [Bool.and_eq_true, decide_eq_true_eq] at hh
  show tE c a σ H Q
  refine ha c n ρ g τ σ H _ _ k1 _ R _ hc h1 hv1 r G fun τ1 t1 H1 r1 G1 ed1 fr1 => ?_
  exact hQ τ1 t1 H1 r1 (Good.tall G1 hk (by rw [ed1]; exact hh.1) (by rw [ed1]; exact hh.2)) ed1 fr1
theorem isR_of {x : Option D} (h : isR x = true) : ∃ n, x = some (.rawl n) := by
  unfold isR at h
  split at h
  · exact ⟨_, rfl⟩
  · cases h
theorem dat_raw {t : T} {m : Nat} (h : t.dat = .rawl m) : ∃ a vs, t = .raw a vs ∧ vs.length = m := by
  cases t <;> simp only [T.dat, reduceCtorEq, D.rawl.injEq] at h
  exact ⟨_, _, rfl, h⟩
theorem slot_raw {i m : Nat} (r : Rel n ρ g τ σ) (G : Good K H0 IO SR H (slots g τ ++ R)) (ha : (gD g i).isSome = true) (hx : getD ρ i = some (.rawl m)) : ∃ a vs k, oD τ i = some (.raw a vs) ∧ vs.length = m ∧ σ[i]? = some (some (.ref a)) ∧ gD g i = some k ∧ T.ok K H (.raw a vs) := by
  obtain ⟨k, e⟩ := Option.isSome_iff_exists.mp ha
  have hi : i < n := by rw [← r.lρ]; exact oD_lt hx
  obtain ⟨t, h1, h2, h3⟩ := r.at_ i k hi e
  rw [hx] at h2
  obtain ⟨a, vs, rfl, h4⟩ := dat_raw (Option.some.inj h2).symm
  exact ⟨a, vs, k, h1, h4, h3, e, (G.take e h1).ok _ List.mem_cons_self⟩
/-- a list as it stands is given another content -/
theorem Good.mutR {a : Addr} {vs ws : List V} (G : Good K H0 IO SR H ((.raw a vs, k) :: R)) (hp : k.pos = true) : Good K H0 IO SR (upd H a (.lst ws)) ((.raw a ws, k) :: R) := by
  have own : a ∈ hOwn ((T.raw a vs, k) :: R) := by
    rw [hOwn_cons]
    refine List.mem_append_left _ ?_
    show a ∈ T.own (.raw a vs) k
    unfold T.own
    rw [if_pos hp]; exact List.mem_singleton.mpr rfl
  have c := G.sep a own
  have c0 : (hLa R).count a = 0 := by
    rw [hLa_cons, List.count_append] at c
    have : (T.la (T.raw a vs)).count a = 1 := by simp [T.la]
    have c' : (T.la (T.raw a vs)).count a + (hLa R).count a = 1 := c
    omega
  have ha : H a = some (.lst vs) := by
    have := G.ok _ List.mem_cons_self
    unfold T.ok at this
    exact this
  have ho : hOwn ((T.raw a ws, k) :: R) = hOwn ((T.raw a vs, k) :: R) := by
    rw [hOwn_cons, hOwn_cons]; rfl
  have hl : hLa ((T.raw a ws, k) :: R) = hLa ((T.raw a vs, k) :: R) := by
    rw [hLa_cons, hLa_cons]; rfl
  refine ⟨fun p hpp => ?_, fun b m => ?_, fun b m => ?_, fun b m => ?_, fun b h m => ?_, fun b m => ?_⟩
  · rcases List.mem_cons.mp hpp with e | hq
    · rw [e]; unfold T.ok; exact upd_same
    · refine ok_keep (fun b o e n => ?_) p.1 (fun b m => ?_) (G.ok p (List.mem_cons_of_mem _ hq))
      · have : b ≠ a := fun z => by
          subst z
          rw [ha] at e; cases e
          exact n _ rfl
        rw [upd_ne this]; exact e
      · have : b ≠ a := fun z => by
          subst z
          exact absurd (show b ∈ hLa R from hLa_mem.mpr ⟨p, hq, m⟩) (List.count_eq_zero.mp c0)
        exact upd_ne this
  · rw [ho] at m; rw [hl]; exact G.sep b m
  · rw [ho] at m; exact G.wr b m
  · obtain ⟨h1, xs, h2⟩ := G.io b m
    refine ⟨h1, ?_⟩
    by_cases e : b = a
    · subst e; exact ⟨ws, upd_same⟩
    · exact ⟨xs, by rw [upd_ne e]; exact h2⟩
  · have e : b ≠ a := fun z => by
      subst z
      rcases G.wr b own with e | e
      · exact h e
      · exact m e
    rw [upd_ne e]; exact G.fr b h m
  · rw [hl] at m; exact G.src b m
theorem ev_appR {i : Nat} {e : E} (he : EvP cl sg H0 IO SR e) : EvP cl sg H0 IO SR (.appR i e) := by
  intro c n ρ g τ σ H d ρ' k g' R Q hc ht hv r G hQ
  simp only [ty] at ht
  split at ht
  · cases ht
  rename_i alive
  obtain ⟨⟨ke, g1⟩, h1, ht⟩ := Option.bind_eq_some_iff.mp ht
  obtain ⟨k0, e0, ht⟩ := Option.bind_eq_some_iff.mp ht
  simp only at ht e0
  by_cases hpos : k0.pos = true
  case neg => rw [if_neg hpos] at ht; cases ht
  rw [if_pos hpos] at ht
  cases ht
  simp only [ev] at hv
  split at hv
  · rename_i hL
    obtain ⟨m0, hx0⟩ := isR_of hL
    obtain ⟨⟨y, ρ1⟩, hv1, hv⟩ := Option.bind_eq_some_iff.mp hv
    simp only at hv
    split at hv
    · rename_i m hx
      split at hv <;> cases hv
      rename_i hlen
      obtain ⟨a, vs, k1, t1, _, hs, _, ok1⟩ := slot_raw r G (by cases h : gD g i <;> simp_all) hx0
      unfold T.ok at ok1
      refine ⟨.ref a, hs, .inl ⟨rfl, _, SqL.of ok1⟩, ?_⟩
      show tE c e σ H fun x H1 => rAppend (.ref a) [x] H1 Q
      refine he c n ρ g τ σ H y ρ1 ke g1 R _ hc h1 hv1 r G fun τ1 t1 H1 r1 G1 ed1 fr1 => ?_
      obtain ⟨a2, vs2, k2, h2, h3, h4, h5, ok2⟩ := slot_raw r1 G1.drop (by rw [e0]; rfl) hx
      rw [hs] at h4
      cases h4
      rw [e0] at h5; cases h5
      unfold T.ok at ok2
      rw [← h3] at hlen
      refine ⟨a, vs2, t1.val, rfl, rfl, ok2, by rw [lim_eq]; exact hlen, ?_⟩
      have G2 := G1.drop.take e0 h2
      have G3 := Good.mutR (ws := vs2 ++ [t1.val]) G2 hpos
      have G4 := G3.put (i := i)
      rw [List.set_set] at G4
      have ed2 : T.dat (.raw a (vs2 ++ [t1.val])) = .rawl (m + 1) := by
        rw [T.dat, List.length_append, h3]; rfl
      have r2 := Rel.mut r1 (u := .raw a (vs2 ++ [t1.val])) (k := k0) h2 hs rfl
      rw [ed2] at r2
      refine hQ _ .non _ r2 (G4.plain (by simp [T.ok]) (by simp [T.la])) rfl fun j hj => ?_
      have hj' : j ≠ i ∧ j ∉ muts e := by
        unfold muts at hj
        simpa using hj
      rw [oD_set_ne (Ne.symm hj'.1), fr1 j hj'.2]
    · cases hv
  · cases hv
theorem ev_pop {i : Nat} : EvP cl sg H0 IO SR (.pop i) := by
  intro c n ρ g τ σ H d ρ' k g' R Q hc ht hv r G hQ
  simp only [ty] at ht
  obtain ⟨k0, e0, ht⟩ := Option.bind_eq_some_iff.mp ht
  by_cases hpos : k0.pos = true
  case neg => rw [if_neg hpos] at ht; cases ht
  rw [if_pos hpos] at ht
  cases ht
  simp only [ev] at hv
  split at hv
  · rename_i xs hx
    simp only [Option.map_eq_some_iff] at hv
    obtain ⟨d', hd, hv⟩ := hv
    cases hv
    obtain ⟨a, ts, k1, h2, h3, hs, h5, ok1⟩ := slot_lst r G (by rw [e0]; rfl) hx
    rw [e0] at h5; cases h5
    subst h3
    unfold T.ok at ok1
    rw [dats_len] at hd
    obtain ⟨y, hy, rfl, hyv⟩ := dats_get hd
    refine ⟨.ref a, hs, .inl ⟨rfl, _, SqL.of ok1.1⟩, a, vals ts, y.val, rfl, rfl, ok1.1, by rw [show (vals ts).length = ts.length from List.length_map _]; exact hyv, ?_⟩
    have G2 : Good c.K H0 IO SR H ((.lst a ts, k0) :: ([] ++ (slots (g.set i none) τ ++ R))) := G.take e0 h2
    have split : ts = ts.dropLast ++ [y] := by
      have hne : ts ≠ [] := by rintro rfl; simp at hy
      have hl := List.dropLast_concat_getLast hne
      have : ts.getLast hne = y := by
        rw [List.getLast_eq_getElem]
        exact Option.some.inj ((List.getElem?_eq_getElem _).symm.trans hy)
      rw [this] at hl
      exact hl.symm
    have G3 := Good.mut (old := []) (more := [(y, k0.pred)]) (ts' := ts.dropLast) (j := k0) G2 hpos (fun u hu => oks_iff.mp ok1.2 u (List.dropLast_subset _ hu)) (fun p hp => ?_) (fun b hb => ?_) (fun b => ?_)
    · rw [show (vals ts).dropLast = vals ts.dropLast from (List.map_dropLast ..).symm]
      have G3' : Good c.K H0 IO SR (upd H a (.lst (vals ts.dropLast))) ((.lst a ts.dropLast, k0) :: (slots (g.set i none) τ ++ ((y, k0.pred) :: R))) := G3.perm (List.Perm.cons _ (perm3 [(y, k0.pred)] _ R))
      have G4 := G3'.put (i := i)
      rw [List.set_set] at G4
      have ed2 : T.dat (.lst a ts.dropLast) = .lst (T.dats ts).dropLast := by
        rw [T.dat, dats_map, dats_map, List.map_dropLast]
      have r2 := Rel.mut r (u := .lst a ts.dropLast) (k := k0) h2 hs rfl
      rw [ed2] at r2
      have gs : g.set i (some k0) = g := gset_self e0
      rw [gs] at G4 r2
      refine hQ _ y _ r2 (G4.perm List.perm_middle) rfl fun j hj => ?_
      have hj' : j ≠ i := by
        unfold muts at hj
        simpa using hj
      rw [oD_set_ne (Ne.symm hj')]
    · rw [List.mem_singleton.mp hp]; exact oks_iff.mp ok1.2 y (List.mem_of_getElem? hy)
    · left
      rw [split, owns_flat, List.flatMap_append, ← owns_flat]
      rcases List.mem_append.mp hb with hb | hb
      · exact List.mem_append_left _ hb
      · refine List.mem_append_right _ ?_
        simpa [hOwn] using hb
    · have e : (T.las ts).count b = (T.las ts.dropLast).count b + (T.la y).count b := by
        conv => lhs; rw [split, las_app, List.count_append]
        simp [T.las]
      rw [e]
      simp [hLa]
  · cases hv
where
  gset_self {g : Gam} {i : Nat} {k : Dp} (h : gD g i = some k) : g.set i (some k) = g := by
    refine List.ext_getElem? fun j => ?_
    by_cases c : i = j
    · subst c
      rw [List.getElem?_set_self (oD_lt h), oD_get h]
    · rw [List.getElem?_set_ne c]
theorem gset_self {g : Gam} {i : Nat} {k : Dp} (h : gD g i = some k) : g.set i (some k) = g := by
  refine List.ext_getElem? fun j => ?_
  by_cases c : i = j
  · subst c
    rw [List.getElem?_set_self (oD_lt h), oD_get h]
  · rw [List.getElem?_set_ne c]
theorem las_erase : ∀ {ts : List T} {j : Nat} {y : T} (b : Addr), ts[j]? = some y → (T.las ts).count b = (T.las (ts.eraseIdx j)).count b + (T.la y).count b
  | [], j, y, b, h => by simp at h
  | t :: ts, 0, y, b, h => by
    simp only [List.getElem?_cons_zero, Option.some.injEq] at h
    subst h
    rw [las_cons, List.count_append, List.eraseIdx_cons_zero]; omega
  | t :: ts, j + 1, y, b, h => by
    rw [las_cons, List.count_append, List.eraseIdx_cons_succ, las_cons, List.count_append, las_erase (ts := ts) (j := j) b (by simpa using h)]; omega
theorem map_eraseIdx0 {α β : Type} (f : α → β) : ∀ (xs : List α) (j : Nat), (xs.eraseIdx j).map f = (xs.map f).eraseIdx j
  | [], j => by simp
  | x :: xs, 0 => rfl
  | x :: xs, j + 1 => by
    rw [List.eraseIdx_cons_succ, List.map_cons, List.map_cons, List.eraseIdx_cons_succ, map_eraseIdx0 f xs j]
theorem ev_popi {i : Nat} {e : E} (he : EvP cl sg H0 IO SR e) : EvP cl sg H0 IO SR (.popi i e) := by
  intro c n ρ g τ σ H d ρ' k g' R Q hc ht hv r G hQ
  simp only [ty] at ht
  split at ht
  · cases ht
  rename_i alive
  obtain ⟨⟨ke, g1⟩, h1, ht⟩ := Option.bind_eq_some_iff.mp ht
  obtain ⟨k0, e0, ht⟩ := Option.bind_eq_some_iff.mp ht
  simp only at ht e0
  by_cases hpos : k0.pos = true
  case neg => rw [if_neg hpos] at ht; cases ht
  rw [if_pos hpos] at ht
  cases ht
  simp only [ev] at hv
  split at hv
  · rename_i hL
    obtain ⟨xs0, hx0⟩ := isL_of hL
    obtain ⟨⟨y, ρ1⟩, hv1, hv⟩ := Option.bind_eq_some_iff.mp hv
    simp only at hv
    split at hv
    · rename_i xs j hx
      split at hv
      · rename_i hj
        simp only [Option.map_eq_some_iff] at hv
        obtain ⟨d', hd, hv⟩ := hv
        cases hv
        obtain ⟨a, ts, k1, t1, _, hs, _, ok1⟩ := slot_lst r G (by cases h : gD g i <;> simp_all) hx0
        unfold T.ok at ok1
        refine ⟨.ref a, hs, .inl ⟨rfl, _, SqL.of ok1.1⟩, ?_⟩
        show tE c e σ H fun x H1 => rPopAt (.ref a) [x] H1 Q
        refine he c n ρ g τ σ H _ ρ1 ke g' R _ hc h1 hv1 r G fun τ1 t1 H1 r1 G1 ed1 fr1 => ?_
        obtain ⟨a2, ts2, k2, h2, h3, h4, h5, ok2⟩ := slot_lst r1 G1.drop (by rw [e0]; rfl) hx
        rw [hs] at h4
        cases h4
        rw [e0] at h5; cases h5
        subst h3
        unfold T.ok at ok2
        obtain ⟨yt, hy, rfl, hyv⟩ := dats_get hd
        have hjl : j.toNat < ts2.length := (List.getElem?_eq_some_iff.mp hy).1
        rw [dat_int ed1]
        refine ⟨a, vals ts2, j, j.toNat, yt.val, rfl, rfl, ok2.1, by omega, hj.2, ?_, hyv, ?_⟩
        · rw [show (vals ts2).length = ts2.length from List.length_map _]
          exact seqIndex_of hj.1 (by omega)
        have G2 : Good c.K H0 IO SR H1 ((.lst a ts2, k0) :: ([] ++ (slots (g'.set i none) τ1 ++ R))) := G1.drop.take e0 h2
        have G3 := Good.mut (old := []) (more := [(yt, k0.pred)]) (ts' := ts2.eraseIdx j.toNat) (j := k0) G2 hpos (fun u hu => oks_iff.mp ok2.2 u (List.mem_of_mem_eraseIdx hu)) (fun p hp => ?_) (fun b hb => ?_) (fun b => ?_)
        · rw [show (vals ts2).eraseIdx j.toNat = vals (ts2.eraseIdx j.toNat) from by unfold vals; rw [map_eraseIdx0]]
          have G3' : Good c.K H0 IO SR (upd H1 a (.lst (vals (ts2.eraseIdx j.toNat)))) ((.lst a (ts2.eraseIdx j.toNat), k0) :: (slots (g'.set i none) τ1 ++ ((yt, k0.pred) :: R))) := G3.perm (List.Perm.cons _ (perm3 [(yt, k0.pred)] _ R))
          have G4 := G3'.put (i := i)
          rw [List.set_set] at G4
          have ed2 : T.dat (.lst a (ts2.eraseIdx j.toNat)) = .lst ((T.dats ts2).eraseIdx j.toNat) := by
            rw [T.dat, dats_map, dats_map, map_eraseIdx0]
          have r2 := Rel.mut r1 (u := .lst a (ts2.eraseIdx j.toNat)) (k := k0) h2 hs rfl
          rw [ed2] at r2
          rw [gset_self e0] at G4 r2
          refine hQ _ yt _ r2 (G4.perm List.perm_middle) rfl fun m hm => ?_
          have hm' : m ≠ i ∧ m ∉ muts e := by
            unfold muts at hm
            simpa using hm
          rw [oD_set_ne (Ne.symm hm'.1), fr1 m hm'.2]
        · rw [List.mem_singleton.mp hp]; exact oks_iff.mp ok2.2 yt (List.mem_of_getElem? hy)
        · left
          rcases List.mem_append.mp hb with hb | hb
          · rw [owns_flat] at hb ⊢
            obtain ⟨u, hu, hb⟩ := List.mem_flatMap.mp hb
            exact List.mem_flatMap.mpr ⟨u, List.mem_of_mem_eraseIdx hu, hb⟩
          · rw [owns_flat]
            exact List.mem_flatMap.mpr ⟨yt, List.mem_of_getElem? hy, by simpa [hOwn] using hb⟩
        · rw [las_erase b hy]
          simp [hLa]
      · cases hv
    · cases hv
  · cases hv
theorem arr_len {α β : Type} {vs : List α} {us : List β} (h : vs.length = us.length) (ks : List Nat) : (arrange vs ks).length = (arrange us ks).length := by
  unfold arrange
  generalize List.range ks.length = l
  induction l with
  | nil => rfl
  | cons j l ih =>
    rw [List.filterMap_cons, List.filterMap_cons]
    cases e : ks.idxOf? j with
    | none => exact ih
    | some i =>
      simp only [Option.bind_some]
      by_cases c : i < vs.length
      · rw [List.getElem?_eq_getElem c, List.getElem?_eq_getElem (by omega)]
        simp only [List.length_cons, ih]
      · rw [List.getElem?_eq_none (by omega), List.getElem?_eq_none (by omega)]
        exact ih
theorem arr_map {α β : Type} (f : α → β) (vs : List α) (ks : List Nat) : arrange (vs.map f) ks = (arrange vs ks).map f := by
  unfold arrange
  generalize List.range ks.length = l
  induction l with
  | nil => rfl
  | cons j l ih =>
    rw [List.filterMap_cons, List.filterMap_cons]
    cases e : ks.idxOf? j with
    | none => exact ih
    | some i =>
      simp only [Option.bind_some]
      rw [List.getElem?_map]
      cases vs[i]? with
      | none => exact ih
      | some v => simp only [Option.map_some, List.map_cons, ih]
theorem arr_mem {α : Type} {vs : List α} {ks : List Nat} {x : α} (h : x ∈ arrange vs ks) : x ∈ vs := by
  unfold arrange at h
  obtain ⟨j, _, h⟩ := List.mem_filterMap.mp h
  obtain ⟨i, _, h⟩ := Option.bind_eq_some_iff.mp h
  exact List.mem_of_getElem? h
theorem ioNone {io : List (Option Dp)} {ts : List T} (h : io.all (· == none) = true) : ioOwn io ts = [] ∧ ioHold io ts = [] := by
  have q : ∀ p ∈ io.zip ts, p.1 = none := fun p hp => by
    have := List.all_eq_true.mp h p.1 (List.of_mem_zip hp).1
    simpa using this
  unfold ioOwn ioHold
  constructor
  · rw [List.flatMap_eq_nil_iff]
    intro p hp; rw [q p hp]
  · rw [List.flatMap_eq_nil_iff]
    intro p hp; rw [q p hp]
theorem ev_callk {f : Nat} {es : List E} {ks : List Nat} (hE : EvoP cl sg H0 IO SR es) : EvP cl sg H0 IO SR (.callk f es ks) := by
  intro c n ρ g τ σ H d ρ' k g' R Q hc ht hv r G hQ
  simp only [ty] at ht
  split at ht
  · rename_i hh
    obtain ⟨hl, hio, hout, harr, hkl, hnv⟩ := hh
    simp only [Option.map_eq_some_iff] at ht
    obtain ⟨⟨dk, g1⟩, h1, ht⟩ := ht
    simp only [ev] at hv
    obtain ⟨⟨ds, ρ1⟩, hv1, hv⟩ := Option.bind_eq_some_iff.mp hv
    simp only [Option.map_eq_some_iff] at hv
    obtain ⟨⟨d', ds'⟩, hv2, hv⟩ := hv
    cases hv
    show seqT (tEl c es) σ H fun vs H1 => vs.length = ks.length ∧ c.sp f (arrange vs ks) H1 Q (WE c.W σ)
    refine hE c n ρ g τ σ H ds ρ' dk g1 R _ hc h1 hv1 r G fun τ1 ts H1 r1 G1 eds os fr1 => ?_
    have tl : ts.length = ks.length := by rw [hkl, os.l1]
    refine ⟨by rw [← tl]; exact List.length_map _, ?_⟩
    have ea : arrange (vals ts) ks = vals (arrange ts ks) := arr_map T.val ts ks
    rw [ea]
    rw [opHold_zip hnv os.l1] at G1
    have al : (arrange ts ks).length = es.length := by
      rw [arr_len (us := List.range es.length) (by rw [List.length_range]; exact os.l1.symm) ks]; exact harr
    have io0 := ioNone (ts := arrange ts ks) hio
    refine hc f _ _ ds' hv2 (arrange ts ks) H1 Q _ ?_ ⟨by rw [al]; exact hl, fun t ht => ?_, fun a m => ?_⟩ fun t' ts' H2 O ed _ => ?_
    · rw [dats_map, ← arr_map T.dat ts ks, ← dats_map, eds]
    · obtain ⟨j, hj⟩ := List.getElem?_of_mem (arr_mem ht)
      obtain ⟨hjl, ej⟩ := List.getElem?_eq_some_iff.mp hj
      refine G1.ok (t, dk[j]'(by rw [os.l2]; exact hjl)) (List.mem_append_left _ (List.mem_of_getElem? (i := j) ?_))
      rw [List.getElem?_zip_eq_some]
      exact ⟨hj, List.getElem?_eq_getElem _⟩
    · rw [io0.1] at m; cases m
    · have G2 := call_step G1 O (fun a m => by
        rw [hLa_zip os.l2, las_flat]
        rw [las_flat] at m
        obtain ⟨t, ht, m⟩ := List.mem_flatMap.mp m
        exact List.mem_flatMap.mpr ⟨t, arr_mem ht, m⟩) (fun a m => by rw [io0.1] at m; cases m)
      rw [(ioNone (ts := ts') hout).2] at G2
      have G3 : Good c.K H0 IO SR H2 ((t', (sg f).res) :: (slots g1 τ1 ++ R)) := G2
      simp only at ht
      split at ht
      · rename_i c2
        cases ht
        rw [c2.1] at G3
        have f1 : ∀ i, oD τ1 i = oD τ i := fun i => fr1 i (by rw [c2.2]; exact List.not_mem_nil)
        exact hQ τ1 t' H2 (r1.dom fun i k e => (back_dom i k e).1) (Good.back (N := [(t', .om)]) G G3 (fun p hp => by rw [List.mem_singleton.mp hp]) (r1.lτ.trans r.lτ.symm) f1) ed fr1
      · cases ht
        exact hQ τ1 t' H2 r1 G3 ed fr1
  · cases ht
/-- what the arguments have given -/
inductive Args1 (σ : L2.St) : List E → List (Option Dp) → List (Option T) → List (Option D) → List V → Prop
  | nil : Args1 σ [] [] [] [] []
  | val {e : E} {es : List E} {k : Option Dp} {io : List (Option Dp)} {t : T} {ts : List (Option T)} {ds : List (Option D)} {vs : List V} : isRef e = none → Args1 σ es io ts ds vs → Args1 σ (e :: es) (k :: io) (some t :: ts) (some t.dat :: ds) (t.val :: vs)
  | ref {i : Nat} {es : List E} {k : Dp} {io : List (Option Dp)} {v : V} {ts : List (Option T)} {ds : List (Option D)} {vs : List V} : σ[i]? = some (some v) → Args1 σ es io ts ds vs → Args1 σ (.ref i :: es) (some k :: io) (none :: ts) (none :: ds) (v :: vs)
def nrH : List (Option Dp) → List (Option T) → Hold
  | k :: io, some t :: ts => (t, k.getD (.fin 0)) :: nrH io ts
  | _ :: io, none :: ts => nrH io ts
  | _, _ => []
theorem isRef_of {e : E} {i : Nat} (h : isRef e = some i) : e = .ref i := by
  cases e <;> simp [isRef] at h
  rw [h]
theorem eva_of : ∀ {es : List E} {io : List (Option Dp)} {c : TC} {n : Nat} {ρ : REnv} {g : Gam} {τ : Tau} {σ : L2.St} {H : Hp} {os : List (Option D)} {ρ' : REnv} {g' : Gam} {R : Hold} {Q : List V → Hp → Prop}, (∀ e ∈ es, EvP cl sg H0 IO SR e) → CallOk cl sg c → tya sg io es g = some g' → eva cl es ρ = some (os, ρ') → Rel n ρ g τ σ → Good c.K H0 IO SR H (slots g τ ++ R) →
    (∀ τ' ts vs H', Rel n ρ' g' τ' σ → Good c.K H0 IO SR H' (nrH io ts ++ (slots g' τ' ++ R)) → Args1 σ es io ts os vs → (∀ i, i ∉ mutsL es → oD τ' i = oD τ i) → Q vs H') → seqT (tEl c es) σ H Q
  | [], io, c, n, ρ, g, τ, σ, H, os, ρ', g', R, Q, he, hc, ht, hv, r, G, hQ => by
    cases io with
    | cons k io => simp [tya] at ht
    | nil =>
      simp only [tya, Option.some.injEq] at ht
      simp only [eva, Option.some.injEq, Prod.mk.injEq] at hv
      obtain ⟨rfl, rfl⟩ := hv
      subst ht
      exact hQ τ [] [] H r G .nil fun _ _ => rfl
  | e :: es, io, c, n, ρ, g, τ, σ, H, os, ρ', g', R, Q, he, hc, ht, hv, r, G, hQ => by
    cases io with
    | nil => simp [tya] at ht
    | cons k io =>
      have he' : ∀ e ∈ es, EvP cl sg H0 IO SR e := fun e h => he e (List.mem_cons_of_mem _ h)
      show tE c e σ H fun x H1 => seqT (tEl c es) σ H1 fun vs H2 => Q (x :: vs) H2
      simp only [tya] at ht
      simp only [eva] at hv
      cases hr : isRef e with
      | some i =>
        rw [hr] at ht hv
        simp only at ht hv
        have ee := isRef_of hr
        subst ee
        by_cases hh : (k.isSome && (gD g i).isSome) = true
        case neg => rw [if_neg hh] at ht; cases ht
        rw [if_pos hh] at ht
        rw [Bool.and_eq_true] at hh
        obtain ⟨d0, ed, hv⟩ := Option.bind_eq_some_iff.mp hv
        simp only [Option.map_eq_some_iff] at hv
        obtain ⟨⟨os', ρ2⟩, hv2, hv⟩ := hv
        cases hv
        obtain ⟨k0, ek⟩ := Option.isSome_iff_exists.mp hh.1
        obtain ⟨kg, eg⟩ := Option.isSome_iff_exists.mp hh.2
        subst ek
        obtain ⟨t, _, _, h3⟩ := r.at_ i kg (by rw [← r.lρ]; exact oD_lt ed) eg
        refine ⟨t.val, h3, ?_⟩
        refine eva_of he' hc ht hv2 r G fun τ' ts vs H' r' G' a f => ?_
        exact hQ τ' (none :: ts) (t.val :: vs) H' r' G' (.ref h3 a) fun j hj => f j fun z => hj (by unfold mutsL; exact List.mem_append_right _ z)
      | none =>
        rw [hr] at ht hv
        simp only at ht hv
        obtain ⟨⟨k1, g1⟩, h1, ht⟩ := Option.bind_eq_some_iff.mp ht
        simp only at ht
        by_cases hh : (k.getD (.fin 0)).le k1 = true
        case neg => rw [if_neg hh] at ht; cases ht
        rw [if_pos hh] at ht
        obtain ⟨⟨d, ρ1⟩, hv1, hv⟩ := Option.bind_eq_some_iff.mp hv
        simp only [Option.map_eq_some_iff] at hv
        obtain ⟨⟨os', ρ2⟩, hv2, hv⟩ := hv
        cases hv
        refine he e List.mem_cons_self c n ρ g τ σ H d ρ1 k1 g1 R _ hc h1 hv1 r G fun τ1 t1 H1 r1 G1 ed1 fr1 => ?_
        subst ed1
        refine eva_of he' hc ht hv2 r1 (G1.weak hh).inR1 fun τ' ts vs H' r' G' a f => ?_
        refine hQ τ' (some t1 :: ts) (t1.val :: vs) H' r' ?_ (.val hr a) fun j hj => ?_
        · show Good c.K H0 IO SR H' ((t1, k.getD (.fin 0)) :: (nrH io ts ++ (slots g' τ' ++ R)))
          exact G'.perm ((List.Perm.append_left _ List.perm_middle).trans List.perm_middle)
        · unfold mutsL at hj
          rw [f j (notm hj).2, fr1 j (notm hj).1]
/-- all arguments, in their order -/
theorem args_all : ∀ {es : List E} {io : List (Option Dp)} {ots : List (Option T)} {os : List (Option D)} {vs : List V} {ds : List D} {g g1 : Gam} {τ : Tau} {R : Hold}, Args1 σ es io ots os vs → fillD es os ρ = some ds → takeR (ioPs io es) g = some g1 → Rel n ρ g τ σ → Good K H0 IO SR H (nrH io ots ++ (slots g τ ++ R)) →
    ∃ ts, vals ts = vs ∧ T.dats ts = ds ∧ es.length = ts.length ∧ io.length = es.length ∧ Good K H0 IO SR H (callH io ts ++ (slots g1 τ ++ R)) ∧ Rel n ρ g1 τ σ ∧ (∀ (j i : Nat) (t : T), es[j]? = some (E.ref i) → ts[j]? = some t → σ[i]? = some (some t.val)) ∧ (∀ (j i : Nat), es[j]? = some (E.ref i) → ∃ k, io[j]? = some (some k))
  | _, _, _, _, _, ds, g, g1, τ, R, .nil, hf, ht, r, G => by
    simp only [fillD, Option.some.injEq] at hf
    simp only [ioPs, takeR, Option.some.injEq] at ht
    subst hf; subst ht
    exact ⟨[], rfl, rfl, rfl, rfl, G, r, fun j i t h => by simp at h, fun j i h => by simp at h⟩
  | _, _, _, _, _, ds, g, g1, τ, R, .val (e := e) (es := es) (k := k) (io := io) (t := t) (ts := ots) hr a, hf, ht, r, G => by
    simp only [fillD, hr, Option.map_eq_some_iff] at hf
    obtain ⟨ds', hf, rfl⟩ := hf
    have ei : ioPs (k :: io) (e :: es) = ioPs io es := by
      cases k <;> (cases e <;> first | rfl | (simp [isRef] at hr))
    rw [ei] at ht
    have G' : Good K H0 IO SR H (nrH io ots ++ (slots g τ ++ ((t, k.getD (.fin 0)) :: R))) := by
      refine (show Good K H0 IO SR H ((t, k.getD (.fin 0)) :: (nrH io ots ++ (slots g τ ++ R))) from G).perm ?_
      exact List.perm_middle.symm.trans (List.Perm.append_left _ List.perm_middle.symm)
    obtain ⟨ts, e1, e2, e3, e4, G2, r2, h1, h2⟩ := args_all a hf ht r G'
    refine ⟨t :: ts, by rw [← e1]; rfl, by rw [← e2]; rfl, by simp [e3], by simp [e4], ?_, r2, fun j i u p q => ?_, fun j i p => ?_⟩
    · show Good K H0 IO SR H ((t, k.getD (.fin 0)) :: (callH io ts ++ (slots g1 τ ++ R)))
      exact G2.perm ((List.Perm.append_left _ List.perm_middle).trans List.perm_middle)
    · cases j with
      | zero =>
        simp only [List.getElem?_cons_zero, Option.some.injEq] at p
        rw [p] at hr; simp [isRef] at hr
      | succ j => exact h1 j i u (by simpa using p) (by simpa using q)
    · cases j with
      | zero =>
        simp only [List.getElem?_cons_zero, Option.some.injEq] at p
        rw [p] at hr; simp [isRef] at hr
      | succ j => simpa using h2 j i (by simpa using p)
  | _, _, _, _, _, ds, g, g1, τ, R, .ref (i := i) (es := es) (k := k) (io := io) (v := v) (ts := ots) hs a, hf, ht, r, G => by
    simp only [fillD, isRef] at hf
    obtain ⟨d, ed, hf1⟩ := Option.bind_eq_some_iff.mp hf
    simp only [Option.map_eq_some_iff] at hf1
    obtain ⟨ds', hf2, rfl⟩ := hf1
    simp only [ioPs, takeR] at ht
    split at ht
    · rename_i k1 e1
      by_cases hle : k.le k1 = true
      case neg => rw [if_neg hle] at ht; cases ht
      rw [if_pos hle] at ht
      obtain ⟨t, h1, h2, h3⟩ := r.at_ i k1 (by rw [← r.lρ]; exact oD_lt ed) e1
      rw [hs] at h3
      have ev : v = t.val := by simpa using h3
      have ed' : d = t.dat := Option.some.inj (ed.symm.trans h2)
      have r1 : Rel n ρ (g.set i none) τ σ := r.dom fun j kk e => by
        by_cases c : i = j
        · subst c; rw [show gD (g.set i none) i = none from oD_set_none] at e; cases e
        · rw [show gD (g.set i _) j = gD g j from oD_set_ne c] at e
          exact ⟨_, e⟩
      have G0 : Good K H0 IO SR H (slots g τ ++ (nrH io ots ++ R)) := (show Good K H0 IO SR H (nrH io ots ++ (slots g τ ++ R)) from G).inR
      have G1 := (G0.take e1 h1).weak hle
      have G' : Good K H0 IO SR H (nrH io ots ++ (slots (g.set i none) τ ++ ((t, k) :: R))) := by
        refine G1.perm ?_
        refine (List.Perm.cons _ (perm3 ..)).trans ?_
        exact List.perm_middle.symm.trans (List.Perm.append_left _ List.perm_middle.symm)
      obtain ⟨ts, q1, q2, q3, q4, G2, r2, p1, p2⟩ := args_all a hf2 ht r1 G'
      refine ⟨t :: ts, by rw [← q1, ev]; rfl, by rw [← q2, ed']; rfl, by simp [q3], by simp [q4], ?_, r2, fun j i' u p q => ?_, fun j i' p => ?_⟩
      · show Good K H0 IO SR H ((t, k) :: (callH io ts ++ (slots g1 τ ++ R)))
        exact G2.perm ((List.Perm.append_left _ List.perm_middle).trans List.perm_middle)
      · cases j with
        | zero =>
          simp only [List.getElem?_cons_zero, Option.some.injEq] at p q
          cases p; subst q
          rw [hs, ev]
        | succ j => exact p1 j i' u (by simpa using p) (by simpa using q)
      · cases j with
        | zero => exact ⟨k, rfl⟩
        | succ j => simpa using p2 j i' (by simpa using p)
    · cases ht
theorem refOk_ok : ∀ {io : List (Option Dp)} {es : List E}, refOk io es = true → io.length = es.length ∧ ∀ (j i : Nat), es[j]? = some (E.ref i) → ∃ k, io[j]? = some (some k)
  | [], [], _ => ⟨rfl, fun j i h => by simp at h⟩
  | k :: io, e :: es, h => by
    unfold refOk at h
    rw [Bool.and_eq_true] at h
    obtain ⟨l, q⟩ := refOk_ok h.2
    refine ⟨by simp [l], fun j i p => ?_⟩
    cases j with
    | zero =>
      simp only [List.getElem?_cons_zero, Option.some.injEq] at p
      subst p
      obtain ⟨k0, e⟩ := Option.isSome_iff_exists.mp h.1
      exact ⟨k0, by rw [e]; rfl⟩
    | succ j => simpa using q j i (by simpa using p)
  | [], _ :: _, h => by simp [refOk] at h
  | _ :: _, [], h => by simp [refOk] at h
theorem ev_call {f : Nat} {es : List E} (hE : ∀ e ∈ es, EvP cl sg H0 IO SR e) : EvP cl sg H0 IO SR (.call f es) := by
  intro c n ρ g τ σ H d ρ' k g' R Q hc ht hv r G hQ
  simp only [ty] at ht
  split at ht
  · rename_i hl
    obtain ⟨hl, hro⟩ := hl
    obtain ⟨g0, h0, ht⟩ := Option.bind_eq_some_iff.mp ht
    simp only [Option.map_eq_some_iff] at ht
    obtain ⟨g1, h1, ht⟩ := ht
    cases ht
    simp only [ev] at hv
    obtain ⟨⟨os, ρ1⟩, hv1, hv⟩ := Option.bind_eq_some_iff.mp hv
    obtain ⟨ds, hf, hv⟩ := Option.bind_eq_some_iff.mp hv
    simp only [Option.map_eq_some_iff] at hv
    obtain ⟨⟨d', ds'⟩, hv2, hv⟩ := hv
    cases hv
    show seqT (tEl c es) σ H fun vs H1 => c.sp f vs H1 Q (WE c.W σ)
    refine eva_of hE hc h0 hv1 r G fun τ1 ots vs H1 r0 G0' a fr1 => ?_
    obtain ⟨ts, evs', eds, l1, l2, G1, r1, hr, hk⟩ := args_all a hf h1 r0 G0'
    subst evs'
    have hlt : (sg f).io.length = ts.length := hl.trans l1
    refine hc f ds _ ds' hv2 ts H1 Q _ eds (callH_pre G1 hlt) fun t' ts' H2 O ed dok => ?_
    have G2 := call_step G1 O (fun a m => by rw [callH_la hlt]; exact m) (fun a m => callH_own m)
    have key : ∀ (gg : Gam), Rel n ρ1 gg τ1 σ → Good c.K H0 IO SR H2 (((t', (sg f).res) :: ioHold (sg f).out ts') ++ (slots gg τ1 ++ R)) → (if (sg f).res = .om ∧ mutsL es = [] ∧ ((sg f).out.all fun k => k == none || k == some .om) = true then back g g1 else g1) = gg → Q t'.val H2 := fun gg rr GG eg => by
      have G3 : Good c.K H0 IO SR H2 (ioHold (sg f).out ts' ++ (slots gg τ1 ++ ((t', (sg f).res) :: R))) := by
        refine (show Good c.K H0 IO SR H2 ((t', (sg f).res) :: (ioHold (sg f).out ts' ++ (slots gg τ1 ++ R))) from GG).perm ?_
        exact List.perm_middle.symm.trans (List.Perm.append_left _ List.perm_middle.symm)
      have lts' : ts'.length = es.length := O.len.trans l1.symm
      obtain ⟨τ2, r2, G4, f2⟩ := putBack (es := es) (ds' := ds') (refOk_ok hro).1 lts' (dok.1.trans lts') (refOk_ok hro).2 (fun j k u a b => dok.2 j k u a b) (fun j i u a b => by
        obtain ⟨k0, hk0⟩ := (refOk_ok hro).2 j i a
        have hj : j < ts.length := by rw [← O.len]; exact (List.getElem?_eq_some_iff.mp b).1
        have et : ts[j]? = some ts[j] := List.getElem?_eq_getElem hj
        rw [O.val j k0 ts[j] u hk0 et b]
        exact hr j i _ a et) rr G3
      rw [eg] at hQ
      refine hQ τ2 t' H2 r2 (G4.perm List.perm_middle) ed fun i hi => ?_
      unfold muts at hi
      rw [f2 i (notm hi).1, fr1 i (notm hi).2]
    by_cases c2 : (sg f).res = .om ∧ mutsL es = [] ∧ ((sg f).out.all fun k => k == none || k == some .om) = true
    · refine key (back g g1) (r1.dom fun i k e => (back_dom i k e).1) ?_ (by rw [if_pos c2])
      have f1 : ∀ i, oD τ1 i = oD τ i := fun i => fr1 i (by rw [c2.2.1]; exact List.not_mem_nil)
      refine Good.back G G2 (fun p hp => ?_) (r1.lτ.trans r.lτ.symm) f1
      rcases List.mem_cons.mp hp with e | hp
      · rw [e]; exact c2.1
      · unfold ioHold at hp
        obtain ⟨q, hq, hp⟩ := List.mem_flatMap.mp hp
        have := List.all_eq_true.mp c2.2.2 q.1 (List.of_mem_zip hq).1
        cases eq : q.1 with
        | none => rw [eq] at hp; cases hp
        | some k =>
          rw [eq] at hp this
          rw [List.mem_singleton.mp hp]
          simpa using this
    · exact key g1 r1 G2 (by rw [if_neg c2])
  · cases ht
theorem evs_len : ∀ {es : List E} {ρ ρ1 : REnv} {ds : List D}, evs cl es ρ = some (ds, ρ1) → es.length = ds.length
  | [], ρ, ρ1, ds, h => by
    simp only [evs, Option.some.injEq, Prod.mk.injEq] at h
    obtain ⟨rfl, _⟩ := h; rfl
  | e :: es, ρ, ρ1, ds, h => by
    obtain ⟨d, dr, ρ2, h1, h2, rfl⟩ := evs_cons h
    rw [List.length_cons, List.length_cons, evs_len h2]
theorem ev_opN {o : Op} {es : List E} (h : ∀ ds : List D, ds.length = es.length → opD o ds = none) : EvP cl sg H0 IO SR (.op o es) := by
  intro c n ρ g τ σ H d ρ' k g' R Q hc ht hv r G hQ
  simp only [ev] at hv
  obtain ⟨⟨ds, ρ1⟩, hv1, hv⟩ := Option.bind_eq_some_iff.mp hv
  simp only [Option.map_eq_some_iff] at hv
  obtain ⟨d', hd, hv⟩ := hv
  rw [h ds (evs_len hv1).symm] at hd
  cases hd
theorem sl3_none (ds : List D) (h : ds.length ≠ 3) : opD (.sl true true) ds = none := by
  simp only [opD]
  split
  · exact absurd rfl h
  · rfl
theorem nil_none (ds : List D) (h : ds.length = 0) : opD .index ds = none ∧ opD .count ds = none := by
  cases ds with
  | nil => exact ⟨rfl, rfl⟩
  | cons d ds => simp at h
theorem ev_opAll {o : Op} {es : List E} (he : ∀ e ∈ es, EvP cl sg H0 IO SR e) : EvP cl sg H0 IO SR (.op o es) := by
  by_cases hs : isSp o = false
  · exact ev_op hs (evo_of he)
  by_cases o1 : o = .index
  · subst o1
    cases es with
    | nil => exact ev_opN fun ds l => (nil_none ds l).1
    | cons e es => exact ev_index (fun _ => he e List.mem_cons_self) (evo_of fun e' h => he e' (List.mem_cons_of_mem _ h))
  by_cases o2 : o = .count
  · subst o2
    cases es with
    | nil => exact ev_opN fun ds l => (nil_none ds l).2
    | cons e es => exact ev_count (fun _ => he e List.mem_cons_self) (evo_of fun e' h => he e' (List.mem_cons_of_mem _ h))
  by_cases o3 : o = .sl true true
  · subst o3
    by_cases l : es.length = 3
    · cases es with
      | nil => simp at l
      | cons e1 es =>
        cases es with
        | nil => simp at l
        | cons e2 es =>
          cases es with
          | nil => simp at l
          | cons e3 es =>
            cases es with
            | nil => exact ev_sl3 he
            | cons e4 es => simp at l
    · exact ev_opN fun ds q => sl3_none ds (by omega)
  · exfalso
    apply hs
    cases o <;> first | rfl | exact absurd rfl o1 | exact absurd rfl o2 | skip
    rename_i lo hi
    cases lo <;> cases hi <;> first | rfl | exact absurd rfl o3
mutual
theorem ev_ok : ∀ (e : E), (zipOk e = true) → EvP cl sg H0 IO SR e
  | .var i, _ => ev_var i
  | .vin i, _ => by intro c n ρ g τ σ H d ρ' k g' R Q hc ht hv r G hQ; simp [ty] at ht
  | .mov i, _ => ev_mov i
  | .ref i, _ => by intro c n ρ g τ σ H d ρ' k g' R Q hc ht hv r G hQ; simp [ty] at ht
  | .int m, _ => ev_atom (t := .int m) rfl rfl (by simp [T.la]) (by simp [T.ok]) rfl (fun _ => rfl) (fun _ => rfl) (fun _ _ _ _ => rfl)
  | .bl b, _ => ev_atom (t := .bl b) rfl rfl (by simp [T.la]) (by simp [T.ok]) rfl (fun _ => rfl) (fun _ => rfl) (fun _ _ _ _ => rfl)
  | .non, _ => ev_atom (t := .non) rfl rfl (by simp [T.la]) (by simp [T.ok]) rfl (fun _ => rfl) (fun _ => rfl) (fun _ _ _ _ => rfl)
  | .str s, _ => ev_atom (t := .str s) rfl rfl (by simp [T.la]) (by simp [T.ok]) rfl (fun _ => rfl) (fun _ => rfl) (fun _ _ _ _ => rfl)
  | .gint x m, _ => ev_atom (t := .int m) rfl rfl (by simp [T.la]) (by simp [T.ok]) rfl (fun _ => rfl) (fun _ => rfl) (fun _ _ _ _ => rfl)
  | .op o es, h => by
    unfold zipOk at h
    exact ev_opAll (evl_ok es h)
  | .chn a o1 b o2 d, h => by
    unfold zipOk at h
    simp only [Bool.and_eq_true] at h
    exact ev_chn (ev_ok a h.1.1) (ev_ok b h.1.2) (ev_ok d h.2)
  | .and a b, h => by
    unfold zipOk at h
    rw [Bool.and_eq_true] at h
    exact ev_and (ev_ok a h.1) (ev_ok b h.2)
  | .or a b, h => by
    unfold zipOk at h
    rw [Bool.and_eq_true] at h
    exact ev_or (ev_ok a h.1) (ev_ok b h.2)
  | .not a, h => by
    unfold zipOk at h
    exact ev_not (ev_ok a h)
  | .ite x a b, h => by
    unfold zipOk at h
    simp only [Bool.and_eq_true] at h
    exact ev_ite (ev_ok x h.1.1) (ev_ok a h.1.2) (ev_ok b h.2)
  | .call f es, h => by
    unfold zipOk at h
    exact ev_call (evl_ok es h)
  | .callk f es ks, h => by
    unfold zipOk at h
    exact ev_callk (evo_of (evl_ok es h))
  | .app i e, h => by
    unfold zipOk at h
    exact ev_app (ev_ok e h)
  | .pop i, _ => ev_pop
  | .popi i e, h => by
    unfold zipOk at h
    exact ev_popi (ev_ok e h)
  | .comp t own k es cs e, h => by
    unfold zipOk at h
    simp only [Bool.and_eq_true, bne_iff_ne, ne_eq] at h
    exact comp_ok h.1.1.1 (evo_of (evl_ok es h.1.1.2)) (evc_of (evl_ok cs h.1.2)) (ev_ok e h.2)
  | .comp2 t own k es cs t2 own2 k2 es2 cs2 e, h => by
    unfold zipOk at h
    simp only [Bool.and_eq_true, bne_iff_ne, ne_eq] at h
    exact comp2_ok h.1.1.1.1.1.1 h.1.1.1.1.1.2 (evo_of (evl_ok es h.1.1.1.1.2)) (evc_of (evl_ok cs h.1.1.1.2)) (evo_of (evl_ok es2 h.1.1.2)) (evc_of (evl_ok cs2 h.1.2)) (ev_ok e h.2)
  | .scal e, h => by
    unfold zipOk at h
    exact ev_scal (ev_ok e h)
  | .tall m e, h => by
    unfold zipOk at h
    exact ev_tall (ev_ok e h)
  | .appR i e, h => by
    unfold zipOk at h
    exact ev_appR (ev_ok e h)
  | .compO t own i cs e, h => by
    unfold zipOk at h
    rw [Bool.and_eq_true] at h
    exact compO_ok (evc_of (evl_ok cs h.1)) (ev_ok e h.2)
theorem evl_ok : ∀ (es : List E), (zipOkL es = true) → ∀ e ∈ es, EvP cl sg H0 IO SR e
  | [], _, e, h => nomatch h
  | e :: es, h, e', h' => by
    unfold zipOkL at h
    rw [Bool.and_eq_true] at h
    have h1 := ev_ok e h.1
    have h2 := evl_ok es h.2
    rcases List.mem_cons.mp h' with q | q
    · rw [q]; exact h1
    · exact h2 e' q
end
end
end OH

namespace OH
open PySem PySem.Spec PyProof.Rows L2
mutual
def zipOkS : S → Bool
  | .asg _ e => zipOk e
  | .par _ es => zipOkL es
  | .sub _ k e => zipOk k && zipOk e
  | .sub2 _ k _ k2 e e2 => zipOk k && zipOk k2 && zipOk e && zipOk e2
  | .aug _ _ e => zipOk e
  | .augs _ k _ e => zipOk k && zipOk e
  | .ex e => zipOk e
  | .ret e => zipOk e
  | .iff c a b => zipOk c && zipOkSs a && zipOkSs b
  | .whl c b _ => zipOk c && zipOkSs b
  | .forr _ k es b _ => (k != .zip true) && zipOkL es && zipOkSs b
  | .frm s => zipOkS s
  | _ => true
def zipOkSs : List S → Bool
  | [] => true
  | s :: ss => zipOkS s && zipOkSs ss
end
section
variable (cl : Calls) (sg : Nat → Sig) (fs : Sig) (H0 : Hp) (IO SR : List Addr)
structure NxP (c : TC) (n : Nat) (og : Option Gam) (R : Hold) (τ : Tau) (σ : L2.St) (ch as : List Nat) (D : Ends) (out : Out) : Prop where
  nx : ∀ ρ' g' τ' σ' H', out = .nx ρ' → og = some g' → Rel n ρ' g' τ' σ' → Good c.K H0 IO SR H' (slots g' τ' ++ R) → (∀ i, i ∉ ch → oD τ' i = oD τ i) → (∀ i, i ∉ as → σ'[i]? = σ[i]?) → D.nx σ' H'
  rt : ∀ d t ρ' g' τ' σ' H', out = .rt d ρ' → Rel n ρ' g' τ' σ' → Good c.K H0 IO SR H' ((t, fs.res) :: (slots g' τ' ++ R)) → ioOk fs.out g' = true → t.dat = d → (∀ i, i ∉ as → σ'[i]? = σ[i]?) → D.rt t.val H'
def SvP (s : S) : Prop := ∀ (c : TC) (n : Nat) (ρ : REnv) (g : Gam) (τ : Tau) (σ : L2.St) (H : Hp) (og : Option Gam) (R : Hold) (D : Ends) (out : Out), CallOk cl sg c → tyS sg fs s g = some og → evS cl s ρ = some out → Rel n ρ g τ σ → Good c.K H0 IO SR H (slots g τ ++ R) →
  NxP fs H0 IO SR c n og R τ σ (chg s) (fnOk.asg s) D out → tS c s D σ H
def SvsP (ss : List S) : Prop := ∀ (c : TC) (n : Nat) (ρ : REnv) (g : Gam) (τ : Tau) (σ : L2.St) (H : Hp) (og : Option Gam) (R : Hold) (D : Ends) (out : Out), CallOk cl sg c → tySs sg fs ss g = some og → evSs cl ss ρ = some out → Rel n ρ g τ σ → Good c.K H0 IO SR H (slots g τ ++ R) →
  NxP fs H0 IO SR c n og R τ σ (chgs ss) (fnOk.asgs ss) D out → tSs c ss D σ H
end
section
variable {cl : Calls} {sg : Nat → Sig} {fs : Sig} {H0 : Hp} {IO SR : List Addr}
variable {K : PySem.W.Frag} {H H' : Hp} {R : Hold} {g g' : Gam} {τ τ' : Tau} {t : T} {k : Dp} {n : Nat} {ρ : REnv} {σ σ' : L2.St}
theorem sv_asg {t : Tg} {e : E} (he : EvP cl sg H0 IO SR e) : SvP cl sg fs H0 IO SR (.asg t e) := by
  intro c n ρ g τ σ H og R D out hc ht hv r G hN
  have ht' : ∃ k g1, ty sg e g = some (k, g1) ∧ og = some (putG g1 (tgPs t k)) := by
    cases t with
    | nm i =>
      simp only [tyS, Option.map_eq_some_iff] at ht
      obtain ⟨⟨k, g1⟩, h1, ht⟩ := ht
      exact ⟨k, g1, h1, ht.symm⟩
    | tp is =>
      simp only [tyS] at ht
      split at ht
      · simp only [Option.map_eq_some_iff] at ht
        obtain ⟨⟨k, g1⟩, h1, ht⟩ := ht
        exact ⟨k, g1, h1, ht.symm⟩
      · cases ht
  obtain ⟨k, g1, h1, eo⟩ := ht'
  simp only [evS] at hv
  obtain ⟨⟨d, ρ1⟩, hv1, hv⟩ := Option.bind_eq_some_iff.mp hv
  simp only [Option.map_eq_some_iff] at hv
  obtain ⟨ρ2, hb, hv⟩ := hv
  cases hv
  show tE c e σ H fun x H1 => tTg c.K t x σ H1 D.nx
  refine he c n ρ g τ σ H d ρ1 k g1 R _ hc h1 hv1 r G fun τ1 t1 H1 r1 G1 ed fr => ?_
  subst ed
  refine bind_tree hb r1 G1 fun τ2 σ2 g2 eg r2 G2 f1 f2 => ?_
  subst eg
  refine hN.nx _ _ τ2 σ2 H1 rfl eo r2 G2 (fun i hi => ?_) fun i hi => ?_
  · unfold chg at hi
    rw [f1 i (notm hi).1, fr i (notm hi).2]
  · exact f2 i hi
theorem par_puts {Q : L2.St → Hp → Prop} : ∀ {is : List Nat} {ts : List T} {ks : List Dp} {ρ : REnv} {g : Gam} {τ : Tau} {σ : L2.St}, is.length = ts.length → ks.length = ts.length → Rel n ρ g τ σ → Good K H0 IO SR H (ts.zip ks ++ (slots g τ ++ R)) →
    (∀ τ1 σ1, Rel n ((is.zip (T.dats ts)).foldl (fun r (p : Nat × D) => r.set p.1 (some p.2)) ρ) (putG g (is.zip ks)) τ1 σ1 → Good K H0 IO SR H (slots (putG g (is.zip ks)) τ1 ++ R) →
      (∀ j, j ∉ is → oD τ1 j = oD τ j) → (∀ j, j ∉ is → σ1[j]? = σ[j]?) → Q σ1 H) → Q ((is.zip (vals ts)).foldl (fun r (p : Nat × V) => r.set p.1 (some p.2)) σ) H
  | [], [], [], ρ, g, τ, σ, _, _, r, G, hQ => hQ τ σ r G (fun _ _ => rfl) fun _ _ => rfl
  | i :: is, u :: us, k :: ks, ρ, g, τ, σ, l, l2, r, G, hQ => by
    have G1 : Good K H0 IO SR H ((u, k) :: (slots g τ ++ (us.zip ks ++ R))) := G.perm (List.Perm.cons _ (perm3 ..))
    show Q ((is.zip (vals us)).foldl (fun r (p : Nat × V) => r.set p.1 (some p.2)) (σ.set i (some u.val))) H
    refine par_puts (is := is) (ts := us) (ks := ks) (by simpa using l) (by simpa using l2) (Rel.put r (i := i) (t := u) (k := k)) (G1.put (i := i)).outR fun τ1 σ1 r1 g1 f1 f2 => ?_
    refine hQ τ1 σ1 r1 g1 (fun j hj => ?_) fun j hj => ?_
    · have hj' : j ≠ i ∧ j ∉ is := by simpa using hj
      rw [f1 j hj'.2, oD_set_ne (Ne.symm hj'.1)]
    · have hj' : j ≠ i ∧ j ∉ is := by simpa using hj
      rw [f2 j hj'.2, List.getElem?_set_ne (Ne.symm hj'.1)]
  | [], _ :: _, _, _, _, _, _, l, _, _, _, _ => by simp at l
  | _ :: _, [], _, _, _, _, _, l, _, _, _, _ => by simp at l
  | [], [], _ :: _, _, _, _, _, _, l, _, _, _ => by simp at l
  | _ :: _, _ :: _, [], _, _, _, _, _, l, _, _, _ => by simp at l
theorem sv_par {is : List Nat} {es : List E} (he : EvoP cl sg H0 IO SR es) : SvP cl sg fs H0 IO SR (.par is es) := by
  intro c n ρ g τ σ H og R D out hc ht hv r G hN
  simp only [tyS] at ht
  split at ht
  · rename_i hh
    simp only [Bool.and_eq_true, beq_iff_eq, Bool.not_eq_true'] at hh
    simp only [Option.map_eq_some_iff] at ht
    obtain ⟨⟨ks, g1⟩, h1, ht⟩ := ht
    simp only [evS] at hv
    obtain ⟨⟨ds, ρ1⟩, hv1, hv⟩ := Option.bind_eq_some_iff.mp hv
    simp only at hv
    split at hv <;> cases hv
    rename_i hl
    show seqT (tEl c es) σ H fun vs H1 => vs.length = is.length ∧ D.nx ((is.zip vs).foldl (fun r (p : Nat × V) => r.set p.1 (some p.2)) σ) H1
    refine he c n ρ g τ σ H ds ρ1 ks g1 R _ hc h1 hv1 r G fun τ1 ts H1 r1 G1 eds os fr => ?_
    rw [opHold_zip hh.2 os.l1] at G1
    have lt : is.length = ts.length := hh.1.2.trans os.l1
    refine ⟨by rw [lt]; exact List.length_map _, ?_⟩
    subst eds
    refine par_puts (Q := D.nx) lt os.l2 r1 G1 fun τ2 σ2 r2 G2 f1 f2 => ?_
    refine hN.nx _ _ τ2 σ2 H1 rfl ht.symm r2 G2 (fun i hi => ?_) fun i hi => f2 i hi
    unfold chg at hi
    rw [f1 i (notm hi).1, fr i (notm hi).2]
  · cases ht
theorem las_set : ∀ {ts : List T} {j : Nat} {t : T} (b : Addr), (T.las (ts.set j t)).count b ≤ (T.las ts).count b + (T.la t).count b
  | [], j, t, b => by simp [T.las]
  | x :: ts, 0, t, b => by
    rw [List.set_cons_zero, las_cons, las_cons, List.count_append, List.count_append]; omega
  | x :: ts, j + 1, t, b => by
    rw [List.set_cons_succ, las_cons, las_cons, List.count_append, List.count_append]
    have := las_set (ts := ts) (j := j) (t := t) b
    omega
/-- o[i] = what is held -/
theorem set_slot {i : Nat} {t : T} {ke kd : Dp} {ρ' : REnv} {j : D} (r : Rel n ρ g τ σ) (G : Good K H0 IO SR H ((t, ke) :: (slots g τ ++ R))) (e : gD g i = some kd) (hp : kd.pos = true) (hs : setAt ρ i j t.dat = some ρ') :
    ∃ a m xs, σ[i]? = some (some (.ref a)) ∧ j = .int m ∧ H a = some (.lst xs) ∧ ∃ q, L2.ixN xs.length m = some q ∧ ∃ τ', Rel n ρ' (g.set i (some (kd.mn ke.succ))) τ' σ ∧ Good K H0 IO SR (upd H a (.lst (xs.set q t.val))) (slots (g.set i (some (kd.mn ke.succ))) τ' ++ R) ∧ ∀ m, m ≠ i → oD τ' m = oD τ m := by
  unfold setAt at hs
  split at hs
  · rename_i xs m hx
    simp only [Option.map_eq_some_iff] at hs
    obtain ⟨q, hq, rfl⟩ := hs
    obtain ⟨a, ts, k2, h2, h3, h4, h5, ok⟩ := slot_lst r G.drop (by rw [e]; rfl) hx
    rw [e] at h5; cases h5
    unfold T.ok at ok
    rw [← h3, dats_len] at hq
    refine ⟨a, m, vals ts, h4, rfl, ok.1, q, by rw [show (vals ts).length = ts.length from List.length_map _]; exact hq, ?_⟩
    have G2 : Good K H0 IO SR H ((.lst a ts, kd) :: ([(t, ke)] ++ (slots (g.set i none) τ ++ R))) := by
      have z := G.inR1.take e h2
      exact z.perm (List.Perm.cons _ List.perm_middle)
    have G3 := Good.mut (old := [(t, ke)]) (more := []) (ts' := ts.set q t) (j := kd.mn ke.succ) G2 hp (fun u hu => ?_) (fun p hp => nomatch hp) (fun b hb => ?_) (fun b => ?_)
    · rw [show vals (ts.set q t) = (vals ts).set q t.val from List.map_set ..] at G3
      have G3' : Good K H0 IO SR (upd H a (.lst ((vals ts).set q t.val))) ((.lst a (ts.set q t), kd.mn ke.succ) :: (slots (g.set i none) τ ++ R)) := G3
      have G4 := G3'.put (i := i)
      rw [List.set_set] at G4
      have ed2 : T.dat (.lst a (ts.set q t)) = .lst (xs.set q t.dat) := by
        rw [T.dat, ← h3, dats_map, dats_map, List.map_set]
      have r2 := Rel.mut r (u := .lst a (ts.set q t)) (k := kd.mn ke.succ) h2 h4 rfl
      rw [ed2] at r2
      exact ⟨_, r2, G4, fun m hm => oD_set_ne (Ne.symm hm)⟩
    · rcases List.mem_or_eq_of_mem_set hu with hu | hu
      · exact oks_iff.mp ok.2 u hu
      · rw [hu]; exact G.ok _ List.mem_cons_self
    · have le1 : (kd.mn ke.succ).pred.le kd.pred = true := Dp.le_pred (Dp.mn_le_l _ _)
      have le2 : (kd.mn ke.succ).pred.le ke = true := by
        have := Dp.le_pred (Dp.mn_le_r kd ke.succ)
        rwa [Dp.pred_succ] at this
      rw [show hOwn ([] : Hold) = [] from rfl, List.append_nil, owns_flat] at hb
      obtain ⟨u, hu, hb⟩ := List.mem_flatMap.mp hb
      rcases List.mem_or_eq_of_mem_set hu with hu | hu
      · left
        rw [owns_flat]
        exact List.mem_flatMap.mpr ⟨u, hu, own_mono le1 _ _ hb⟩
      · rw [hu] at hb
        exact .inr (hOwn_mem.mpr ⟨(t, ke), List.mem_singleton.mpr rfl, own_mono le2 _ _ hb⟩)
    · have := las_set (ts := ts) (j := q) (t := t) b
      have e1 : (hLa [(t, ke)]).count b = (T.la t).count b := by simp [hLa]
      have e2 : (hLa ([] : Hold)).count b = 0 := rfl
      omega
  · cases hs
theorem slot_val {i : Nat} (r : Rel n ρ g τ σ) (h : (gD g i).isSome = true) (hi : isL (getD ρ i) = true) : ∃ t, oD τ i = some t ∧ σ[i]? = some (some t.val) := by
  obtain ⟨k, e⟩ := Option.isSome_iff_exists.mp h
  obtain ⟨xs, hx⟩ := isL_of hi
  obtain ⟨t, h1, _, h3⟩ := r.at_ i k (by rw [← r.lρ]; exact oD_lt hx) e
  exact ⟨t, h1, h3⟩
/-- the store itself -/
theorem put_at {i : Nat} {k : E} (hk : EvP cl sg H0 IO SR k) {c : TC} {t1 : T} {ke kk kd : Dp} {g2 : Gam} {ρ2 ρ3 : REnv} {j : D} {Q : L2.St → Hp → Prop} (hc : CallOk cl sg c) (h2 : ty sg k g = some (kk, g2)) (e0 : gD g2 i = some kd) (hp : kd.pos = true) (al : (gD g i).isSome = true) (hL : isL (getD ρ i) = true) (hv2 : ev cl k ρ = some (j, ρ2)) (hs : setAt ρ2 i j t1.dat = some ρ3)
    (r : Rel n ρ g τ σ) (G : Good c.K H0 IO SR H ((t1, ke) :: (slots g τ ++ R))) (hQ : ∀ τ3 H3, Rel n ρ3 (g2.set i (some (kd.mn ke.succ))) τ3 σ → Good c.K H0 IO SR H3 (slots (g2.set i (some (kd.mn ke.succ))) τ3 ++ R) → (∀ m, m ≠ i → m ∉ muts k → oD τ3 m = oD τ m) → Q σ H3) : gSub (tVar i) (tE c k) rSetL t1.val σ H Q := by
  obtain ⟨t, _, hσ⟩ := slot_val r al hL
  refine ⟨t.val, hσ, ?_⟩
  show tE c k σ H fun y H2 => rSetL t.val y t1.val H2 fun H3 => Q σ H3
  refine hk c n ρ g τ σ H j ρ2 kk g2 _ _ hc h2 hv2 r G.inR1 fun τ2 t2 H2 r2 G2 ed2 fr2 => ?_
  have G3 : Good c.K H0 IO SR H2 ((t1, ke) :: (slots g2 τ2 ++ R)) := G2.drop.perm List.perm_middle
  obtain ⟨a, m, xs, s1, rfl, s3, q, s4, τ3, r3, G4, f3⟩ := set_slot r2 G3 e0 hp hs
  rw [hσ] at s1
  have ev' : t.val = .ref a := by simpa using s1
  rw [dat_int ed2, ev']
  exact ⟨a, xs, m, q, rfl, rfl, s3, s4, hQ τ3 _ r3 G4 fun m hm hm2 => by rw [f3 m hm, fr2 m hm2]⟩
theorem sv_sub {i : Nat} {k e : E} (hk : EvP cl sg H0 IO SR k) (he : EvP cl sg H0 IO SR e) : SvP cl sg fs H0 IO SR (.sub i k e) := by
  intro c n ρ g τ σ H og R D out hc ht hv r G hN
  simp only [tyS] at ht
  obtain ⟨⟨ke, g1⟩, h1, ht⟩ := Option.bind_eq_some_iff.mp ht
  obtain ⟨⟨kk, g2⟩, h2, ht⟩ := Option.bind_eq_some_iff.mp ht
  obtain ⟨kd, e0, ht⟩ := Option.bind_eq_some_iff.mp ht
  simp only at ht e0 h2
  by_cases hh : (kd.pos && (gD g1 i).isSome) = true
  case neg => rw [if_neg hh] at ht; cases ht
  rw [if_pos hh] at ht
  rw [Bool.and_eq_true] at hh
  cases ht
  simp only [evS] at hv
  obtain ⟨⟨d, ρ1⟩, hv1, hv⟩ := Option.bind_eq_some_iff.mp hv
  simp only at hv
  by_cases hL : isL (getD ρ1 i) = true
  case neg => rw [if_neg hL] at hv; cases hv
  rw [if_pos hL] at hv
  obtain ⟨⟨j, ρ2⟩, hv2, hv⟩ := Option.bind_eq_some_iff.mp hv
  simp only [Option.map_eq_some_iff] at hv
  obtain ⟨ρ3, hs, hv⟩ := hv
  cases hv
  show tE c e σ H fun x H1 => gSub (tVar i) (tE c k) rSetL x σ H1 D.nx
  refine he c n ρ g τ σ H d ρ1 ke g1 R _ hc h1 hv1 r G fun τ1 t1 H1 r1 G1 ed1 fr1 => ?_
  subst ed1
  refine put_at hk hc h2 e0 hh.1 hh.2 hL hv2 hs r1 G1 fun τ3 H3 r3 G3 f3 => ?_
  refine hN.nx _ _ τ3 σ H3 rfl rfl r3 G3 (fun m hm => ?_) fun _ _ => rfl
  unfold chg at hm
  have hm' : m ≠ i ∧ m ∉ muts k ∧ m ∉ muts e := by
    refine ⟨fun z => hm (by rw [z]; exact List.mem_cons_self), fun z => hm (List.mem_cons_of_mem _ (List.mem_append_left _ z)), fun z => hm (List.mem_cons_of_mem _ (List.mem_append_right _ z))⟩
  rw [f3 m hm'.1 hm'.2.1, fr1 m hm'.2.2]
theorem sv_sub2 {i i2 : Nat} {k k2 e e2 : E} (hk : EvP cl sg H0 IO SR k) (hk2 : EvP cl sg H0 IO SR k2) (he : EvP cl sg H0 IO SR e) (he2 : EvP cl sg H0 IO SR e2) : SvP cl sg fs H0 IO SR (.sub2 i k i2 k2 e e2) := by
  intro c n ρ g τ σ H og R D out hc ht hv r G hN
  simp only [tyS] at ht
  by_cases hm : muts k ++ muts k2 ++ muts e ++ muts e2 = []
  case neg => rw [if_neg hm] at ht; cases ht
  rw [if_pos hm] at ht
  obtain ⟨⟨ke, g1⟩, h1, ht⟩ := Option.bind_eq_some_iff.mp ht
  obtain ⟨⟨ke2, g2⟩, h2, ht⟩ := Option.bind_eq_some_iff.mp ht
  obtain ⟨⟨kk, g3⟩, h3, ht⟩ := Option.bind_eq_some_iff.mp ht
  obtain ⟨kd, e0, ht⟩ := Option.bind_eq_some_iff.mp ht
  simp only at ht e0 h2 h3
  by_cases hh : (kd.pos && (gD g2 i).isSome && (gD (g3.set i (some (kd.mn ke.succ))) i2).isSome) = true
  case neg => rw [if_neg hh] at ht; cases ht
  rw [if_pos hh] at ht
  rw [Bool.and_eq_true, Bool.and_eq_true] at hh
  obtain ⟨⟨kk2, g4⟩, h4, ht⟩ := Option.bind_eq_some_iff.mp ht
  obtain ⟨kd2, e1, ht⟩ := Option.bind_eq_some_iff.mp ht
  simp only at ht e1 h4
  by_cases hp2 : kd2.pos = true
  case neg => rw [if_neg hp2] at ht; cases ht
  rw [if_pos hp2] at ht
  cases ht
  simp only [evS] at hv
  obtain ⟨⟨d, ρ1⟩, hv1, hv⟩ := Option.bind_eq_some_iff.mp hv
  obtain ⟨⟨d2, ρ2⟩, hv2, hv⟩ := Option.bind_eq_some_iff.mp hv
  simp only at hv hv2
  by_cases hL : isL (getD ρ2 i) = true
  case neg => rw [if_neg hL] at hv; cases hv
  rw [if_pos hL] at hv
  obtain ⟨⟨j, ρ3⟩, hv3, hv⟩ := Option.bind_eq_some_iff.mp hv
  obtain ⟨ρ4, hs, hv⟩ := Option.bind_eq_some_iff.mp hv
  simp only at hv hs
  by_cases hL2 : isL (getD ρ4 i2) = true
  case neg => rw [if_neg hL2] at hv; cases hv
  rw [if_pos hL2] at hv
  obtain ⟨⟨j2, ρ5⟩, hv4, hv⟩ := Option.bind_eq_some_iff.mp hv
  simp only [Option.map_eq_some_iff] at hv
  obtain ⟨ρ6, hs2, hv⟩ := hv
  cases hv
  show tTup (seqT [tE c e, tE c e2]) σ H fun x H1 => gTup c.K 2 (gCons (gSub (tVar i) (tE c k) rSetL) (gCons (gSub (tVar i2) (tE c k2) rSetL) gNil)) x σ H1 D.nx
  show tE c e σ H fun x H1 => tE c e2 σ H1 fun y H2 => [x, y].length ≤ sizeLine ∧ ∀ p, H2 p = none → gTup c.K 2 (gCons (gSub (tVar i) (tE c k) rSetL) (gCons (gSub (tVar i2) (tE c k2) rSetL) gNil)) (.ref p) σ (upd H2 p (.tup [x, y])) D.nx
  refine he c n ρ g τ σ H d ρ1 ke g1 R _ hc h1 hv1 r G fun τ1 t1 H1 r1 G1 ed1 fr1 => ?_
  refine he2 c n ρ1 g1 τ1 σ H1 d2 ρ2 ke2 g2 _ _ hc h2 hv2 r1 G1.inR1 fun τ2 t2 H2 r2 G2 ed2 fr2 => ?_
  subst ed1; subst ed2
  refine ⟨by show 2 ≤ sizeLine; decide, fun p hp => ⟨p, [t1.val, t2.val], rfl, SqT.of upd_same, rfl, t1.val, [t2.val], rfl, ?_⟩⟩
  have G3 := junk (o := .tup [t1.val, t2.val]) G2 hp
  have G4 : Good c.K H0 IO SR (upd H2 p (.tup [t1.val, t2.val])) ((t1, ke) :: (slots g2 τ2 ++ ((t2, ke2) :: R))) := by
    refine G3.perm ?_
    refine (List.Perm.cons _ List.perm_middle).trans ((List.Perm.swap ..).trans (List.Perm.cons _ List.perm_middle.symm))
  refine put_at hk hc h3 e0 hh.1.1 hh.1.2 hL hv3 hs r2 G4 fun τ3 H3 r3 G5 f3 => ?_
  refine ⟨t2.val, [], rfl, ?_⟩
  have G6 : Good c.K H0 IO SR H3 ((t2, ke2) :: (slots (g3.set i (some (kd.mn ke.succ))) τ3 ++ R)) := G5.perm List.perm_middle
  refine put_at hk2 hc h4 e1 hp2 hh.2 hL2 hv4 hs2 r3 G6 fun τ4 H4 r4 G7 f4 => ⟨rfl, ?_⟩
  refine hN.nx _ _ τ4 σ H4 rfl rfl r4 G7 (fun m hmm => ?_) fun _ _ => rfl
  unfold chg at hmm
  have nm : m ∉ muts k ∧ m ∉ muts k2 ∧ m ∉ muts e ∧ m ∉ muts e2 := by
    have z : m ∉ muts k ++ muts k2 ++ muts e ++ muts e2 := by rw [hm]; exact List.not_mem_nil
    exact ⟨(notm (notm (notm z).1).1).1, (notm (notm (notm z).1).1).2, (notm (notm z).1).2, (notm z).2⟩
  have hm' : m ≠ i ∧ m ≠ i2 := ⟨fun z => hmm (by rw [z]; exact List.mem_cons_self), fun z => hmm (by rw [z]; exact List.mem_cons_of_mem _ List.mem_cons_self)⟩
  rw [f4 m hm'.2 nm.2.1, f3 m hm'.1 nm.1, fr2 m nm.2.2.2, fr1 m nm.2.2.1]
theorem aug_ok {o : Op} {x y z : D} (h : augD o x y = some z) : ∃ i j m, x = .int i ∧ y = .int j ∧ z = .int m ∧ ∀ (H : Hp) (Q : VK), Q (.int m) H → ipO o (.int i) (.int j) H Q := by
  unfold augD at h
  split at h
  · cases h; exact ⟨_, _, _, rfl, rfl, rfl, fun H Q q => ⟨_, _, rfl, rfl, q⟩⟩
  · cases h; exact ⟨_, _, _, rfl, rfl, rfl, fun H Q q => ⟨_, _, rfl, rfl, q⟩⟩
  · cases h
theorem sv_augs {i : Nat} {k e : E} {o : Op} (hk : EvP cl sg H0 IO SR k) (he : EvP cl sg H0 IO SR e) : SvP cl sg fs H0 IO SR (.augs i k o e) := by
  intro c n ρ g τ σ H og R D out hc ht hv r G hN
  simp only [tyS] at ht
  by_cases hm : muts k ++ muts e = []
  case neg => rw [if_neg hm] at ht; cases ht
  rw [if_pos hm] at ht
  obtain ⟨⟨kk, g1⟩, h1, ht⟩ := Option.bind_eq_some_iff.mp ht
  obtain ⟨⟨ke, g2⟩, h2, ht⟩ := Option.bind_eq_some_iff.mp ht
  obtain ⟨kd, e0, ht⟩ := Option.bind_eq_some_iff.mp ht
  simp only at ht e0 h2
  by_cases hh : (kd.pos && (gD g i).isSome && (gD g1 i).isSome) = true
  case neg => rw [if_neg hh] at ht; cases ht
  rw [if_pos hh] at ht
  rw [Bool.and_eq_true, Bool.and_eq_true] at hh
  cases ht
  simp only [evS] at hv
  by_cases hL : isL (getD ρ i) = true
  case neg => rw [if_neg hL] at hv; cases hv
  rw [if_pos hL] at hv
  obtain ⟨⟨j, ρ1⟩, hv1, hv⟩ := Option.bind_eq_some_iff.mp hv
  simp only at hv
  split at hv
  · rename_i l hl
    obtain ⟨x, hx, hv⟩ := Option.bind_eq_some_iff.mp hv
    obtain ⟨⟨y, ρ2⟩, hv2, hv⟩ := Option.bind_eq_some_iff.mp hv
    obtain ⟨z, hz, hv⟩ := Option.bind_eq_some_iff.mp hv
    simp only [Option.map_eq_some_iff] at hv
    obtain ⟨ρ3, hs, hv⟩ := hv
    cases hv
    have nm : (∀ m, m ∉ muts k) ∧ ∀ m, m ∉ muts e := by
      constructor
      · intro m z
        have : m ∈ muts k ++ muts e := List.mem_append_left _ z
        rw [hm] at this; cases this
      · intro m z
        have : m ∈ muts k ++ muts e := List.mem_append_right _ z
        rw [hm] at this; cases this
    obtain ⟨t0, _, hσ⟩ := slot_val r hh.1.2 hL
    show ∃ v, σ[i]? = some (some v) ∧ tE c k σ H fun yk H2 => rIxL c.K v yk H2 fun x H3 => tE c e σ H3 fun y H4 => ipO o x y H4 fun z H5 => rSetL v yk z H5 fun H6 => D.nx σ H6
    refine ⟨t0.val, hσ, ?_⟩
    refine hk c n ρ g τ σ H j ρ1 kk g1 R _ hc h1 hv1 r G fun τ1 t1 H1 r1 G1 ed1 fr1 => ?_
    obtain ⟨i1, i2, m, rfl, rfl, rfl, w⟩ := aug_ok hz
    have hll : ∃ m0, j = .int m0 := by
      simp only [opD] at hx
      split at hx
      · rename_i e3; cases e3; exact ⟨_, rfl⟩
      · rename_i e3; cases e3
      · rename_i e3; cases e3
      · cases hx
    obtain ⟨m0, rfl⟩ := hll
    obtain ⟨a, ts, k2, h3, h4, h5, _, ok⟩ := slot_lst r1 G1.drop hh.2 hl
    rw [hσ] at h5
    have ev' : t0.val = .ref a := by simpa using h5
    unfold T.ok at ok
    subst h4
    simp only [opD] at hx
    obtain ⟨q, hq, hx⟩ := Option.bind_eq_some_iff.mp hx
    obtain ⟨xt, hxt, exd, hxv⟩ := dats_get hx
    rw [dats_len] at hq
    rw [dat_int exd] at hxv
    rw [dat_int ed1, ev']
    refine ⟨a, vals ts, m0, .int i1, rfl, rfl, SqL.of ok.1, ?_, ?_⟩
    · unfold atI
      rw [show (vals ts).length = ts.length from List.length_map _]
      show (OH.ixN ts.length m0).bind _ = _
      rw [hq]; exact hxv
    refine he c n ρ1 g1 τ1 σ H1 _ ρ2 ke g2 R _ hc h2 hv2 r1 G1.drop fun τ2 t2 H2 r2 G2 ed2 fr2 => ?_
    rw [dat_int ed2]
    refine w H2 _ ?_
    have G3 : Good c.K H0 IO SR H2 ((.int m, .om) :: (slots g2 τ2 ++ R)) := G2.drop.plain (by simp [T.ok]) (by simp [T.la])
    obtain ⟨a', m', xs', s1, e5, s3, q', s4, τ3, r3, G4, f3⟩ := set_slot (t := .int m) r2 G3 e0 hh.1.1 hs
    cases e5
    rw [hσ, ev'] at s1
    cases s1
    have emn : kd.mn (Dp.succ .om) = kd := by cases kd <;> rfl
    rw [emn, gset_self e0] at r3 G4
    refine ⟨a, xs', m0, q', rfl, rfl, s3, s4, ?_⟩
    refine hN.nx _ _ τ3 σ _ rfl rfl r3 G4 (fun b hb => ?_) fun _ _ => rfl
    unfold chg at hb
    have hb' : b ≠ i := fun z => hb (by rw [z]; exact List.mem_cons_self)
    rw [f3 b hb', fr2 b (nm.2 b), fr1 b (nm.1 b)]
  · cases hv

theorem sv_ex {e : E} (he : EvP cl sg H0 IO SR e) : SvP cl sg fs H0 IO SR (.ex e) := by
  intro c n ρ g τ σ H og R D out hc ht hv r G hN
  simp only [tyS, Option.map_eq_some_iff] at ht
  obtain ⟨⟨k, g1⟩, h1, ht⟩ := ht
  simp only [evS, Option.map_eq_some_iff] at hv
  obtain ⟨⟨d, ρ1⟩, hv1, hv⟩ := hv
  cases hv
  show tE c e σ H fun _ H1 => D.nx σ H1
  refine he c n ρ g τ σ H d ρ1 k g1 R _ hc h1 hv1 r G fun τ1 t1 H1 r1 G1 ed fr => ?_
  exact hN.nx _ _ τ1 σ H1 rfl ht.symm r1 G1.drop (fun i hi => fr i hi) fun _ _ => rfl
theorem sv_ret {e : E} (he : EvP cl sg H0 IO SR e) : SvP cl sg fs H0 IO SR (.ret e) := by
  intro c n ρ g τ σ H og R D out hc ht hv r G hN
  simp only [tyS] at ht
  obtain ⟨⟨k, g1⟩, h1, ht⟩ := Option.bind_eq_some_iff.mp ht
  simp only at ht
  by_cases hh : (fs.res.le k && ioOk fs.out g1) = true
  case neg => rw [if_neg hh] at ht; cases ht
  rw [Bool.and_eq_true] at hh
  simp only [evS, Option.map_eq_some_iff] at hv
  obtain ⟨⟨d, ρ1⟩, hv1, hv⟩ := hv
  cases hv
  show tE c e σ H D.rt
  refine he c n ρ g τ σ H d ρ1 k g1 R _ hc h1 hv1 r G fun τ1 t1 H1 r1 G1 ed fr => ?_
  exact hN.rt d t1 _ _ τ1 σ H1 rfl r1 (G1.weak hh.1) hh.2 ed fun _ _ => rfl
theorem sv_retN : SvP cl sg fs H0 IO SR .retN := by
  intro c n ρ g τ σ H og R D out hc ht hv r G hN
  simp only [tyS] at ht
  by_cases hh : ioOk fs.out g = true
  case neg => rw [if_neg hh] at ht; cases ht
  simp only [evS] at hv
  cases hv
  show D.rt .non H
  exact hN.rt .non .non _ _ τ σ H rfl r (G.plain (by simp [T.ok]) (by simp [T.la])) hh rfl fun _ _ => rfl
theorem meetS_l {x y : Option Gam} {g1 : Gam} (h : x = some g1) : ∃ g2, meetS x y = some g2 ∧ GLe g2 g1 := by
  subst h
  cases y with
  | none => exact ⟨g1, rfl, GLe.refl _⟩
  | some g => exact ⟨_, rfl, meet_l _ _⟩
theorem meetS_r {x y : Option Gam} {g1 : Gam} (h : y = some g1) : ∃ g2, meetS x y = some g2 ∧ GLe g2 g1 := by
  subst h
  cases x with
  | none => exact ⟨g1, rfl, GLe.refl _⟩
  | some g => exact ⟨_, rfl, meet_r _ _⟩
theorem sv_iff {e : E} {a b : List S} (he : EvP cl sg H0 IO SR e) (ha : SvsP cl sg fs H0 IO SR a) (hb : SvsP cl sg fs H0 IO SR b) : SvP cl sg fs H0 IO SR (.iff e a b) := by
  intro c n ρ g τ σ H og R D out hc ht hv r G hN
  simp only [tyS] at ht
  obtain ⟨⟨k, g1⟩, h1, ht⟩ := Option.bind_eq_some_iff.mp ht
  obtain ⟨ga, h2, ht⟩ := Option.bind_eq_some_iff.mp ht
  simp only [Option.map_eq_some_iff] at ht
  obtain ⟨gb, h3, ht⟩ := ht
  simp only [evS] at hv
  obtain ⟨⟨x, ρ1⟩, hv1, hv⟩ := Option.bind_eq_some_iff.mp hv
  show tE c e σ H fun x H1 => ∃ k, x = .bl k ∧ (if k = true then tSs c a D σ H1 else tSs c b D σ H1)
  refine he c n ρ g τ σ H x ρ1 k g1 R _ hc h1 hv1 r G fun τ1 t1 H1 r1 G1 ed fr => ?_
  simp only at hv
  split at hv
  · rw [dat_bl ed]
    refine ⟨true, rfl, ?_⟩
    rw [if_pos rfl]
    refine ha c n ρ1 g1 τ1 σ H1 ga R D out hc h2 hv r1 G1.drop ⟨fun ρ' g' τ' σ' H' e1 e2 r' G' f1 f2 => ?_, fun d t ρ' g' τ' σ' H' e1 r' G' io ed f2 => ?_⟩
    · obtain ⟨g2, e3, l⟩ := meetS_l (y := gb) e2
      refine hN.nx ρ' g2 τ' σ' H' e1 (ht.symm.trans e3) (r'.le l) (G'.weakS l) (fun i hi => ?_) fun i hi => ?_
      · unfold chg at hi
        rw [f1 i (notm (notm hi).1).2, fr i (notm (notm hi).1).1]
      · unfold fnOk.asg at hi
        exact f2 i (notm hi).1
    · exact hN.rt d t ρ' g' τ' σ' H' e1 r' G' io ed fun i hi => by
        unfold fnOk.asg at hi
        exact f2 i (notm hi).1
  · rw [dat_bl ed]
    refine ⟨false, rfl, ?_⟩
    rw [if_neg (by decide)]
    refine hb c n ρ1 g1 τ1 σ H1 gb R D out hc h3 hv r1 G1.drop ⟨fun ρ' g' τ' σ' H' e1 e2 r' G' f1 f2 => ?_, fun d t ρ' g' τ' σ' H' e1 r' G' io ed f2 => ?_⟩
    · obtain ⟨g2, e3, l⟩ := meetS_r (x := ga) e2
      refine hN.nx ρ' g2 τ' σ' H' e1 (ht.symm.trans e3) (r'.le l) (G'.weakS l) (fun i hi => ?_) fun i hi => ?_
      · unfold chg at hi
        rw [f1 i (notm hi).2, fr i (notm (notm hi).1).1]
      · unfold fnOk.asg at hi
        exact f2 i (notm hi).2
    · exact hN.rt d t ρ' g' τ' σ' H' e1 r' G' io ed fun i hi => by
        unfold fnOk.asg at hi
        exact f2 i (notm hi).2
  · cases hv
theorem svs_nil : SvsP cl sg fs H0 IO SR [] := by
  intro c n ρ g τ σ H og R D out hc ht hv r G hN
  simp only [tySs, Option.some.injEq] at ht
  simp only [evSs, Option.some.injEq] at hv
  show D.nx σ H
  exact hN.nx ρ g τ σ H hv.symm ht.symm r G (fun _ _ => rfl) fun _ _ => rfl
theorem svs_cons {s : S} {ss : List S} (hs : SvP cl sg fs H0 IO SR s) (hss : SvsP cl sg fs H0 IO SR ss) : SvsP cl sg fs H0 IO SR (s :: ss) := by
  intro c n ρ g τ σ H og R D out hc ht hv r G hN
  simp only [tySs] at ht
  obtain ⟨o1, h1, ht⟩ := Option.bind_eq_some_iff.mp ht
  simp only [evSs] at hv
  obtain ⟨out1, hv1, hv⟩ := Option.bind_eq_some_iff.mp hv
  show tS c s { D with nx := fun σ' H' => tSs c ss D σ' H' } σ H
  refine hs c n ρ g τ σ H o1 R _ out1 hc h1 hv1 r G ⟨fun ρ' g' τ' σ' H' e1 e2 r' G' f1 f2 => ?_, fun d t ρ' g' τ' σ' H' e1 r' G' io ed f2 => ?_⟩
  · subst e1; subst e2
    simp only at ht hv
    refine hss c n ρ' g' τ' σ' H' og R D out hc ht hv r' G' ⟨fun ρ2 g2 τ2 σ2 H2 e1 e2 r2 G2 f3 f4 => ?_, fun d t ρ2 g2 τ2 σ2 H2 e1 r2 G2 io ed f4 => ?_⟩
    · refine hN.nx ρ2 g2 τ2 σ2 H2 e1 e2 r2 G2 (fun i hi => ?_) fun i hi => ?_
      · unfold chgs at hi
        rw [f3 i (notm hi).2, f1 i (notm hi).1]
      · unfold fnOk.asgs at hi
        rw [f4 i (notm hi).2, f2 i (notm hi).1]
    · exact hN.rt d t ρ2 g2 τ2 σ2 H2 e1 r2 G2 io ed fun i hi => by
        unfold fnOk.asgs at hi
        rw [f4 i (notm hi).2, f2 i (notm hi).1]
  · subst e1
    simp only [Option.some.injEq] at hv
    exact hN.rt d t ρ' g' τ' σ' H' hv.symm r' G' io ed fun i hi => by
      unfold fnOk.asgs at hi
      exact f2 i (notm hi).1
theorem sv_frm {s : S} (hs : SvP cl sg fs H0 IO SR s) : SvP cl sg fs H0 IO SR (.frm s) := by
  intro c n ρ g τ σ H og R D out hc ht hv r G hN
  simp only [tyS, Option.map_eq_some_iff] at ht
  obtain ⟨o1, h1, ht⟩ := ht
  simp only [evS] at hv
  show tS c s D σ H
  refine hs c n ρ g τ σ H o1 R D out hc h1 hv r G ⟨fun ρ' g' τ' σ' H' e1 e2 r' G' f1 f2 => ?_, fun d t ρ' g' τ' σ' H' e1 r' G' io ed f2 => ?_⟩
  · subst e2
    have key : ∀ i k, gD (frame g g' (chg s)) i = some k → ∃ k1, gD g' i = some k1 ∧ ((k = .om ∧ k1 = .om) ∨ (gD g i = some k ∧ oD τ' i = oD τ i)) := fun i k e => by
      rw [gD_frame] at e
      cases eg : gD g' i with
      | none => rw [eg] at e; cases e
      | some k1 =>
        rw [eg] at e
        simp only at e
        split at e
        · cases k1 with
          | om => cases e; exact ⟨_, rfl, .inl ⟨rfl, rfl⟩⟩
          | fin a => cases e
        · rename_i hi
          exact ⟨k1, rfl, .inr ⟨e, f1 i hi⟩⟩
    refine hN.nx ρ' (frame g g' (chg s)) τ' σ' H' e1 ht.symm (r'.dom fun i k e => ?_) (Good.restore (N := []) G G' (fun p hp => nomatch hp) (r'.lτ.trans r.lτ.symm) fun i k _ e => key i k e) (fun i hi => f1 i hi) fun i hi => f2 i hi
    obtain ⟨k1, e1, _⟩ := key i k e
    exact ⟨k1, e1⟩
  · exact hN.rt d t ρ' g' τ' σ' H' e1 r' G' io ed fun i hi => f2 i hi
theorem Rel.kill {gh : Gam} {kill : List Nat} (r : Rel n ρ g τ σ) (h : GLe gh (killG g kill)) : Rel n (wipeD ρ kill) gh τ σ := by
  refine ⟨by rw [wipeD_len]; exact r.lρ, r.lτ, r.lσ, fun i k hi e => ?_⟩
  obtain ⟨k', e', _⟩ := h.some e
  rw [gD_kill] at e'
  split at e'
  · cases e'
  · rename_i m
    obtain ⟨t, h1, h2, h3⟩ := r.at_ i k' hi e'
    refine ⟨t, h1, ?_, h3⟩
    rw [getD_wipe, if_neg m]; exact h2
theorem ghOf_le {g0 : Gam} {kill : List Nat} {gb : Option Gam} : GLe (ghOf g0 kill gb) g0 := by
  cases gb with
  | none => exact GLe.refl _
  | some gb => exact meet_l _ _
theorem endOk_le {gh : Gam} {kill : List Nat} {gb : Option Gam} (h : endOk gh kill gb = true) : ∀ g1, gb = some g1 → GLe gh (killG g1 kill) := by
  rintro g1 rfl
  exact leG_ok h
theorem sv_whl {e : E} {b : List S} {kill : List Nat} (he : EvP cl sg H0 IO SR e) (hb : SvsP cl sg fs H0 IO SR b) : SvP cl sg fs H0 IO SR (.whl e b kill) := by
  intro c n ρ g τ σ H og R D out hc ht hv r G hN
  have ht' : ∃ gh k gc gb, GLe gh (killG g kill) ∧ ty sg e gh = some (k, gc) ∧ tySs sg fs b gc = some gb ∧ (∀ g1, gb = some g1 → GLe gh (killG g1 kill)) ∧ og = some gc := by
    simp only [tyS] at ht
    obtain ⟨⟨k0, gc⟩, h1, ht⟩ := Option.bind_eq_some_iff.mp ht
    obtain ⟨gb0, h2, ht⟩ := Option.bind_eq_some_iff.mp ht
    obtain ⟨⟨k1, gc'⟩, h3, ht⟩ := Option.bind_eq_some_iff.mp ht
    obtain ⟨gb', h4, ht⟩ := Option.bind_eq_some_iff.mp ht
    simp only at h3 h4 ht
    by_cases ce : endOk (ghOf (killG g kill) kill gb0) kill gb' = true
    case neg => rw [if_neg ce] at ht; cases ht
    rw [if_pos ce] at ht
    cases ht
    exact ⟨_, k1, gc', gb', ghOf_le, h3, h4, endOk_le ce, rfl⟩
  obtain ⟨gh, k, gc, gb, l0, h1, h2, l1, eo⟩ := ht'
  simp only [evS] at hv
  refine ⟨fun m σm Hm => ∃ ρm τm, Rel n (wipeD ρm kill) gh τm σm ∧ Good c.K H0 IO SR Hm (slots gh τm ++ R) ∧
    whileD (fun r => (ev cl e r).bind fun (x, r1) => match x with | .bl t => some (t, r1) | _ => none) (fun r => evSs cl b r) kill m ρm = some out ∧ (∀ i, i ∉ muts e ++ chgs b → oD τm i = oD τ i) ∧ (∀ i, i ∉ fnOk.asgs b → σm[i]? = σ[i]?), ⟨WHL, ρ, τ, r.kill l0, G.weakS fun i => leO_trans (l0 i) (kill_le g kill i), hv, fun _ _ => rfl, fun _ _ => rfl⟩, ?_⟩
  rintro m σm Hm ⟨ρm, τm, rm, Gm, wm, fm, sm⟩
  cases m with
  | zero => simp [whileD] at wm
  | succ m =>
    simp only [whileD] at wm
    obtain ⟨⟨tt, ρ1⟩, w1, wm⟩ := Option.bind_eq_some_iff.mp wm
    obtain ⟨⟨x, ρ2⟩, w2, w1⟩ := Option.bind_eq_some_iff.mp w1
    show tE c e σm Hm fun x H1 => ∃ k, x = .bl k ∧ _
    refine he c n (wipeD ρm kill) gh τm σm Hm x ρ2 k gc R _ hc h1 w2 rm Gm fun τ1 t1 H1 r1 G1 ed fr => ?_
    simp only at w1
    split at w1 <;> cases w1
    rw [dat_bl ed]
    refine ⟨tt, rfl, ?_⟩
    cases tt with
    | true =>
      rw [if_pos rfl]
      simp only [if_true] at wm
      obtain ⟨o, w3, wm⟩ := Option.bind_eq_some_iff.mp wm
      refine ⟨fun σ' H' => ∃ ρm τm, Rel n (wipeD ρm kill) gh τm σ' ∧ Good c.K H0 IO SR H' (slots gh τm ++ R) ∧
        whileD (fun r => (ev cl e r).bind fun (x, r1) => match x with | .bl t => some (t, r1) | _ => none) (fun r => evSs cl b r) kill m ρm = some out ∧ (∀ i, i ∉ muts e ++ chgs b → oD τm i = oD τ i) ∧ (∀ i, i ∉ fnOk.asgs b → σ'[i]? = σ[i]?), fun σ' H' h => ⟨m, Nat.lt_succ_self m, h⟩, ?_⟩
      refine hb c n ρ1 gc τ1 σm H1 gb R _ o hc h2 w3 r1 G1.drop ⟨fun ρ' g' τ' σ' H' e1 e2 r' G' f1 f2 => ?_, fun d t ρ' g' τ' σ' H' e1 r' G' io ed f2 => ?_⟩
      · subst e1
        have l2 := l1 g' e2
        refine ⟨ρ', τ', r'.kill l2, G'.weakS (fun i => leO_trans (l2 i) (kill_le g' kill i)), wm, fun i hi => ?_, fun i hi => ?_⟩
        · rw [f1 i (notm hi).2, fr i (notm hi).1, fm i hi]
        · rw [f2 i hi, sm i hi]
      · subst e1
        simp only [Option.some.injEq] at wm
        exact hN.rt d t ρ' g' τ' σ' H' wm.symm r' G' io ed fun i hi => by
          unfold fnOk.asg at hi
          rw [f2 i hi, sm i hi]
    | false =>
      rw [if_neg (by decide)]
      simp only [Bool.false_eq_true, if_false, Option.some.injEq] at wm
      refine hN.nx ρ1 gc τ1 σm H1 wm.symm eo r1 G1.drop (fun i hi => ?_) fun i hi => ?_
      · unfold chg at hi
        rw [fr i (notm hi).1, fm i hi]
      · unfold fnOk.asg at hi
        exact sm i hi

theorem sv_forr {t : Tg} {kk : ItK} {es : List E} {b : List S} {kill : List Nat} (hz : kk ≠ .zip true) (hE : EvoP cl sg H0 IO SR es) (hb : SvsP cl sg fs H0 IO SR b) : SvP cl sg fs H0 IO SR (.forr t kk es b kill) := by
  intro c n ρ g τ σ H og R D out hc ht hv r G hN
  have ht' : ∃ ks g1 ps gh gb, tyo sg es g = some (ks, g1) ∧ tgDp t kk ks = some ps ∧ (∀ i ∈ vinsOf es, i ∉ chgs b ++ tgs t) ∧ GLe gh (killG g1 kill) ∧ tySs sg fs b (putG gh ps) = some gb ∧ (∀ i ∈ vinsOf es, (gD gh i).isSome = true) ∧ (∀ g1, gb = some g1 → GLe gh (killG g1 kill)) ∧ og = some gh := by
    simp only [tyS] at ht
    obtain ⟨⟨ks, g1⟩, h1, ht⟩ := Option.bind_eq_some_iff.mp ht
    obtain ⟨ps, h2, ht⟩ := Option.bind_eq_some_iff.mp ht
    simp only at ht h2
    by_cases cv : (vinsOf es).any (fun i => decide (i ∈ chgs b ++ tgs t)) = true
    case pos => rw [if_pos cv] at ht; cases ht
    rw [if_neg cv] at ht
    obtain ⟨gb0, h3, ht⟩ := Option.bind_eq_some_iff.mp ht
    obtain ⟨gb', h4, ht⟩ := Option.bind_eq_some_iff.mp ht
    by_cases ce : ((vinsOf es).all (fun i => (gD (ghOf (killG g1 kill) kill gb0) i).isSome) && endOk (ghOf (killG g1 kill) kill gb0) kill gb') = true
    case neg => rw [if_neg ce] at ht; cases ht
    rw [if_pos ce] at ht
    rw [Bool.and_eq_true] at ce
    cases ht
    refine ⟨ks, g1, ps, _, gb', h1, h2, fun i hi z => ?_, ghOf_le, h4, fun i hi => List.all_eq_true.mp ce.1 i hi, endOk_le ce.2, rfl⟩
    exact cv (List.any_eq_true.mpr ⟨i, hi, by simpa using z⟩)
  obtain ⟨ks, g1, ps, gh, gb, h1, h2, h3, h5, h6, h10, l1, eo⟩ := ht'
  simp only [evS] at hv
  obtain ⟨⟨ds, ρ1⟩, hv1, hv⟩ := Option.bind_eq_some_iff.mp hv
  obtain ⟨items, hv2, hv3⟩ := Option.bind_eq_some_iff.mp hv
  simp only at hv2 hv3
  show tIt c.K kk (tEl c es) σ H _
  have ar := itD_ar hv2
  have tlen : ∀ es : List E, (tEl c es).length = es.length := by
    intro es
    induction es with
    | nil => rfl
    | cons e es ih => unfold tEl; rw [List.length_cons, List.length_cons, ih]
  refine tIt_of (by rw [tlen, evs_len hv1, ar]) hz ?_
  refine hE c n ρ g τ σ H ds ρ1 ks g1 R _ hc h1 hv1 r G fun τ1 ts H1 r1 G1 eds os fr1 => ?_
  subst eds
  have ew := itW_dat os.l2 hv2
  have hwd := itW_dp (k := kk) os.l2
  have sl1 : ∀ (i : Nat) (t : T), (gD g1 i).isSome = true → oD τ1 i = some t → T.ok c.K H1 t := fun i t a b => slots_ok G1 a b
  have vt : ∀ (j i : Nat) (t : T), es[j]? = some (E.vin i) → ts[j]? = some t → oD τ1 i = some t := fun j i t a b => by
    rw [← (os.vok j i a).1]; exact b
  refine rIt_ok os.l2 hv2 hz (roots_ok os.l1 (fun p hp => ?_) fun j i t a b => sl1 i t (os.vok j i a).2 (vt j i t a b)) fun J WJ => ?_
  · exact (Good.apart os.l1 os.l2 os.vk G1).ok p (List.mem_append_left _ hp)
  generalize hws : itW kk ts ks = ws at WJ ew hwd
  let P : Nat → L2.St → Hp → Prop := fun i σi H => ∃ (ρi : REnv) (τi : Tau), Rel n (wipeD ρi kill) gh τi σi ∧
    Good c.K H0 IO SR H (slots gh τi ++ ((ws.drop i).flatMap IW.hold ++ (rtHold es ts ++ R))) ∧
    forD (fun d r => (bindT t d r).bind fun r1 => evSs cl b r1) kill (items.drop i) ρi = some out ∧
    (∀ j, j ∉ tgs t ++ chgs b → oD τi j = oD τ1 j) ∧ (∀ j, j ∉ tgs t ++ fnOk.asgs b → σi[j]? = σ[j]?)
  refine ⟨fun i m σi H => m = ws.length - i ∧ i ≤ ws.length ∧ P i σi H, ⟨ws.length, by simp, Nat.zero_le _, ρ1, τ1, r1.kill h5, ?_, ?_, fun _ _ => rfl, fun _ _ => rfl⟩, ?_⟩
  · have G2 := Good.apart os.l1 os.l2 os.vk G1
    have G3 : Good c.K H0 IO SR H1 (kidsAll ts ks ++ (rtHold es ts ++ (slots g1 τ1 ++ R))) := G2.perm (perm3 ..)
    have G4 : Good c.K H0 IO SR H1 (ws.flatMap IW.hold ++ (rtHold es ts ++ (slots g1 τ1 ++ R))) := by
      rw [← hws]; exact G3.items
    have G5 : Good c.K H0 IO SR H1 (slots g1 τ1 ++ (ws.flatMap IW.hold ++ (rtHold es ts ++ R))) := G4.perm ((List.Perm.append_left _ (perm3 ..)).trans (perm3 ..))
    exact G5.weakS (g' := gh) (fun i => leO_trans (h5 i) (kill_le g1 kill i))
  · rw [List.drop_zero]; exact hv3
  · rintro i m σi Hi ⟨rfl, hi, ρi, τi, ri, Gi, ci, fi, si⟩
    have C : ∀ t ∈ ts, T.ok c.K Hi t.root := by
      refine roots_ok os.l1 (fun p hp => Gi.ok p ?_) fun j s t' a b' => ?_
      · exact List.mem_append_right _ (List.mem_append_right _ (List.mem_append_left _ hp))
      · have hm := mem_vins a
        have al := h10 s hm
        obtain ⟨k0, e0⟩ := Option.isSome_iff_exists.mp al
        have hs := fi s (fun z => h3 s hm (by
          rcases List.mem_append.mp z with z | z
          · exact List.mem_append_right _ z
          · exact List.mem_append_left _ z))
        exact Gi.ok (t', k0) (List.mem_append_left _ (mem_slots.mpr ⟨s, oD_lt (hs.trans (vt j s t' a b')), e0, hs.trans (vt j s t' a b')⟩))
    by_cases hlt : i < ws.length
    · refine .inr ⟨WJ.go i Hi C hlt, P (i + 1), fun σ' H' p' => ⟨ws.length - (i + 1), by omega, rfl, hlt, p'⟩, fun x H' y => ?_⟩
      have ewi : ws[i]? = some ws[i] := List.getElem?_eq_getElem hlt
      have yy := WJ.yld i Hi x H' _ C ewi y
      have di : ws.drop i = ws[i] :: ws.drop (i + 1) := List.drop_eq_getElem_cons hlt
      have dii : items.drop i = ws[i].dat :: items.drop (i + 1) := by
        rw [ew, ← List.map_drop, di, List.map_cons, List.map_drop]
      rw [dii] at ci
      simp only [forD] at ci
      obtain ⟨o, cb, ci⟩ := Option.bind_eq_some_iff.mp ci
      obtain ⟨ρb, cb1, cb2⟩ := Option.bind_eq_some_iff.mp cb
      have Gb : Good c.K H0 IO SR Hi (ws[i].hold ++ (slots gh τi ++ ((ws.drop (i + 1)).flatMap IW.hold ++ (rtHold es ts ++ R)))) := by
        rw [di, List.flatMap_cons, List.append_assoc] at Gi
        exact Gi.perm (perm3 ..)
      refine bind_ok (Q := fun σ2 H2 => tSs c b { D with nx := P (i + 1), ct := P (i + 1), bk := D.nx } σ2 H2) h2 (hwd _ (List.getElem_mem hlt)) cb1 ri Gb yy fun τb σb rb Gbb fb fσ => ?_
      refine hb c n ρb (putG gh ps) τb σb H' gb _ _ o hc h6 cb2 rb Gbb ⟨fun ρ' g' τ' σ' H' e1 e2 r' G' f1 f2 => ?_, fun d t ρ' g' τ' σ' H' e1 r' G' io ed f2 => ?_⟩
      · subst e1
        have l2 := l1 g' e2
        refine ⟨ρ', τ', r'.kill l2, G'.weakS (fun i => leO_trans (l2 i) (kill_le g' kill i)), ci, fun j hj => ?_, fun j hj => ?_⟩
        · rw [f1 j (notm hj).2, fb j (notm hj).1, fi j hj]
        · rw [f2 j (notm hj).2, fσ j (notm hj).1, si j hj]
      · subst e1
        simp only [Option.some.injEq] at ci
        have G6 : Good c.K H0 IO SR H' ((t, fs.res) :: (slots g' τ' ++ R)) := by
          have q : Good c.K H0 IO SR H' (((ws.drop (i + 1)).flatMap IW.hold ++ rtHold es ts) ++ ((t, fs.res) :: (slots g' τ' ++ R))) := by
            refine G'.perm ?_
            refine List.Perm.trans (List.Perm.cons _ ?_) List.perm_middle.symm
            rw [← List.append_assoc (as := (ws.drop (i + 1)).flatMap IW.hold)]
            exact perm3 ..
          exact q.dropL
        exact hN.rt d t ρ' g' τ' σ' H' ci.symm r' G6 io ed fun j hj => by
          unfold fnOk.asg at hj
          rw [f2 j (notm hj).2, fσ j (notm hj).1, si j hj]
    · have e : i = ws.length := by omega
      subst e
      refine .inl ⟨WJ.stop Hi C, ?_⟩
      have dn : items.drop ws.length = [] := by rw [ew]; exact List.drop_eq_nil_of_le (by simp)
      rw [dn] at ci
      simp only [forD, Option.some.injEq] at ci
      have G3 : Good c.K H0 IO SR Hi (slots gh τi ++ R) := by
        have q : Good c.K H0 IO SR Hi (((ws.drop ws.length).flatMap IW.hold ++ rtHold es ts) ++ (slots gh τi ++ R)) := by
          refine Gi.perm ?_
          rw [← List.append_assoc (as := (ws.drop ws.length).flatMap IW.hold)]
          exact perm3 ..
        exact q.dropL
      refine hN.nx _ gh τi σi Hi ci.symm eo ri G3 (fun j hj => ?_) fun j hj => ?_
      · unfold chg at hj
        have : j ∉ tgs t ∧ j ∉ mutsL es ∧ j ∉ chgs b := ⟨(notm (notm hj).1).1, (notm (notm hj).1).2, (notm hj).2⟩
        rw [fi j (fun z => (List.mem_append.mp z).elim this.1 this.2.2), fr1 j this.2.1]
      · unfold fnOk.asg at hj
        exact si j hj
mutual
theorem sv_ok : ∀ (s : S), zipOkS s = true → SvP cl sg fs H0 IO SR s
  | .asg t e, h => by unfold zipOkS at h; exact sv_asg (ev_ok e h)
  | .par is es, h => by unfold zipOkS at h; exact sv_par (evo_of (evl_ok es h))
  | .sub i k e, h => by
    unfold zipOkS at h
    rw [Bool.and_eq_true] at h
    exact sv_sub (ev_ok k h.1) (ev_ok e h.2)
  | .sub2 i k i2 k2 e e2, h => by
    unfold zipOkS at h
    simp only [Bool.and_eq_true] at h
    exact sv_sub2 (ev_ok k h.1.1.1) (ev_ok k2 h.1.1.2) (ev_ok e h.1.2) (ev_ok e2 h.2)
  | .aug _ _ _, h => by intro c n ρ g τ σ H og R D out hc ht hv r G hN; simp [tyS] at ht
  | .augs i k o e, h => by
    unfold zipOkS at h
    rw [Bool.and_eq_true] at h
    exact sv_augs (ev_ok k h.1) (ev_ok e h.2)
  | .ex e, h => by unfold zipOkS at h; exact sv_ex (ev_ok e h)
  | .ret e, h => by unfold zipOkS at h; exact sv_ret (ev_ok e h)
  | .retN, _ => sv_retN
  | .iff c a b, h => by
    unfold zipOkS at h
    simp only [Bool.and_eq_true] at h
    exact sv_iff (ev_ok c h.1.1) (svs_ok a h.1.2) (svs_ok b h.2)
  | .whl c b kill, h => by
    unfold zipOkS at h
    rw [Bool.and_eq_true] at h
    exact sv_whl (ev_ok c h.1) (svs_ok b h.2)
  | .forr t k es b kill, h => by
    unfold zipOkS at h
    simp only [Bool.and_eq_true, bne_iff_ne, ne_eq] at h
    exact sv_forr h.1.1 (evo_of (evl_ok es h.1.2)) (svs_ok b h.2)
  | .raise, _ => by intro c n ρ g τ σ H og R D out hc ht hv r G hN; simp [evS] at hv
  | .pass, _ => by
    intro c n ρ g τ σ H og R D out hc ht hv r G hN
    simp only [tyS, Option.some.injEq] at ht
    simp only [evS, Option.some.injEq] at hv
    exact hN.nx ρ g τ σ H hv.symm ht.symm r G (fun _ _ => rfl) fun _ _ => rfl
  | .frm s, h => by unfold zipOkS at h; exact sv_frm (sv_ok s h)
theorem svs_ok : ∀ (ss : List S), zipOkSs ss = true → SvsP cl sg fs H0 IO SR ss
  | [], _ => svs_nil
  | s :: ss, h => by
    unfold zipOkSs at h
    rw [Bool.and_eq_true] at h
    exact svs_cons (sv_ok s h.1) (svs_ok ss h.2)
end
end
end OH

namespace OH
open PySem PySem.Spec PyProof.Rows L2
structure Def where
  x : Str
  st : Stmt
  N : List Str
  ps : List Str
  fn : Fn
  sig : Sig
  kk : List (List Nat)
def prgOf (ds : List Def) : Prg := fun f => (ds[f]?).map (·.fn)
def sgOf (ds : List Def) : Nat → Sig := fun f => match ds[f]? with | some d => d.sig | none => ⟨[], .om, []⟩
def mcOf (ds : List Def) (G : List (Str × Int)) (d : Def) : MC where
  N := d.N
  sc := defScope d.st
  fn := fun _ => true
  fs := fun f => (ds[f]?).map fun d => (d.x, d.ps, d.kk)
  G := G
def scopeB (N ps : List Str) (sc : Scope) : Bool :=
  funB sc && !sc.isCoroutine && !sc.isGenerator && decide N.Nodup && decide (N.take ps.length = ps) && ps.all (fun x => sc.names.lookup x == some .local || sc.names.lookup x == some .cell) && sc.names.all (fun y => y.2 != .free)
theorem scopeB_ok {N ps : List Str} {sc : Scope} (h : scopeB N ps sc = true) : FnScope N ps sc := by
  unfold scopeB at h
  simp only [Bool.and_eq_true, Bool.not_eq_true', decide_eq_true_eq, List.all_eq_true, Bool.or_eq_true, beq_iff_eq, bne_iff_ne, ne_eq] at h
  obtain ⟨⟨⟨⟨⟨⟨h1, h2⟩, h3⟩, h4⟩, h5⟩, h6⟩, h7⟩ := h
  refine ⟨?_, h2, h3, h4, h5, fun x hx => h6 x hx, fun y hy => h7 y hy⟩
  unfold funB at h1
  split at h1
  · assumption
  · cases h1
def chkD (ds : List Def) (G : List (Str × Int)) (d : Def) : Bool :=
  scopeB d.N d.ps (defScope d.st) && decide (d.fn.n = d.N.length) && decide (d.fn.ps = d.ps.length) && zipOkSs d.fn.body && fnOk (sgOf ds) d.sig d.fn && mSs (mcOf ds G d) d.fn.body (defBody d.st)

/-- a def's promise at a depth -/
def spD (K : PySem.W.Frag) (P : Prg) (sg : Nat → Sig) (k f : Nat) : Sp := fun vs H Q E =>
  ∃ ts d ds', vals ts = vs ∧ SpPre K (sg f) ts H ∧ callD P k f (T.dats ts) = some (d, ds') ∧ ∀ t' ts' H', SpOut K (sg f) ts H t' ts' H' → t'.dat = d → DsOk (sg f) ts' ds' → Q t'.val H'
theorem spD_call {K : PySem.W.Frag} {P : Prg} {sg : Nat → Sig} {k : Nat} {W : WX} : CallOk (callD P k) sg { K := K, sp := spD K P sg k, W := W } := fun f ds d ds' h ts H Q E hd pre hQ => by
  subst hd
  exact ⟨ts, d, ds', rfl, pre, h, hQ⟩

/-! ### slots at the entry and at the end -/
theorem ent_succ {k : Option Dp} {g : Gam} {t : Option T} {τ : Tau} {i : Nat} : ent (k :: g) (t :: τ) (i + 1) = ent g τ i := rfl
theorem slots_cons {k : Option Dp} {g : Gam} {t : Option T} {τ : Tau} : slots (k :: g) (t :: τ) = ent (k :: g) (t :: τ) 0 ++ slots g τ := by
  unfold slots slotsOn
  rw [List.length_cons, List.range_succ_eq_map, List.flatMap_cons, List.flatMap_map]
  rfl
theorem slots_nil {τ : Tau} : slots [] τ = [] := by
  unfold slots slotsOn
  rw [List.flatMap_eq_nil_iff]
  intro i _
  exact ent_none (show gD [] i = none from oD_out (Nat.zero_le _))
theorem slots_none {m : Nat} {τ : Tau} : slots (List.replicate m none) τ = [] := by
  unfold slots slotsOn
  rw [List.flatMap_eq_nil_iff]
  intro i _
  refine ent_none ?_
  show oD (List.replicate m none) i = none
  unfold oD
  rw [List.getElem?_replicate]
  split <;> rfl
def g0Of (io : List (Option Dp)) (m : Nat) : Gam := (io.map fun k => some (k.getD (.fin 0))) ++ List.replicate m none
theorem slots_start : ∀ {io : List (Option Dp)} {ts : List T} {m m' : Nat}, io.length = ts.length → slots (g0Of io m) (ts.map some ++ List.replicate m' none) = callH io ts
  | [], [], m, m', _ => slots_none
  | k :: io, t :: ts, m, m', h => by
    have e : slots (g0Of (k :: io) m) ((t :: ts).map some ++ List.replicate m' none) = [(t, k.getD (.fin 0))] ++ slots (g0Of io m) (ts.map some ++ List.replicate m' none) := slots_cons
    rw [e, slots_start (by simpa using h)]
    rfl
  | [], _ :: _, _, _, h => by simp at h
  | _ :: _, [], _, _, h => by simp at h
def trees (ps : Nat) (τ : Tau) : List T := (τ.take ps).map fun t => t.getD .non
theorem slots_end : ∀ {io : List (Option Dp)} {τ : Tau}, io.length ≤ τ.length → (∀ (j : Nat) (k : OH.Dp), io[j]? = some (some k) → (oD τ j).isSome = true) → slots io τ = ioHold io (trees io.length τ)
  | [], τ, _, _ => slots_nil
  | k :: io, t :: τ, h, hs => by
    rw [slots_cons, slots_end (by simpa using h) fun j k' e => hs (j + 1) k' (by simpa using e)]
    cases k with
    | none => rfl
    | some k' =>
      have := hs 0 k' rfl
      cases t with
      | none => exact absurd this (by simp [oD])
      | some t => rfl
  | _ :: _, [], h, _ => by simp at h
theorem trees_get {ps j : Nat} {τ : Tau} {t : T} (h : oD τ j = some t) (hj : j < ps) : (trees ps τ)[j]? = some t := by
  unfold trees
  rw [List.getElem?_map, List.getElem?_take, if_pos hj, oD_get h]; rfl
theorem ioOk_le {io : List (Option Dp)} {g : Gam} (h : ioOk io g = true) : GLe io g := fun i => by
  cases e : gD io i with
  | none => rfl
  | some k =>
    have e1 : io[i]? = some (some k) := oD_get e
    have m : (some k, i) ∈ io.zipIdx := List.mem_zipIdx_iff_getElem?.mpr e1
    have q := List.all_eq_true.mp h (some k, i) m
    simp only at q
    cases eg : gD g i with
    | none => rw [eg] at q; cases q
    | some k1 => rw [eg] at q; exact q
section
variable {K : PySem.W.Frag} {H H' : Hp} {io : List (Option Dp)} {ts : List T}
theorem start_good (pre : SpPre K ⟨io, r, o⟩ ts H) : Good K H (ioOwn io ts) (T.las ts) H (callH io ts ++ []) := by
  have hl : io.length = ts.length := pre.len
  have own : ∀ {io : List (Option Dp)} {ts : List T} {a : Addr}, a ∈ hOwn (callH io ts) → a ∈ ioOwn io ts := by
    intro io
    induction io with
    | nil => intro ts a m; cases m
    | cons k io ih =>
      intro ts a m
      cases ts with
      | nil => cases m
      | cons t ts =>
        unfold callH at m
        rw [hOwn_cons] at m
        unfold ioOwn
        rw [List.zip_cons_cons, List.flatMap_cons]
        rcases List.mem_append.mp m with m | m
        · refine List.mem_append_left _ ?_
          cases k with
          | none =>
            have m' : a ∈ T.own t (.fin 0) := m
            rw [own_zero] at m'; cases m'
          | some k => exact m
        · exact List.mem_append_right _ (ih m)
  have okm : ∀ {io : List (Option Dp)} {ts : List T} {p : T × Dp}, p ∈ callH io ts → p.1 ∈ ts := by
    intro io
    induction io with
    | nil => intro ts p m; cases m
    | cons k io ih =>
      intro ts p m
      cases ts with
      | nil => cases m
      | cons t ts =>
        unfold callH at m
        rcases List.mem_cons.mp m with e | m
        · rw [e]; exact List.mem_cons_self
        · exact List.mem_cons_of_mem _ (ih m)
  rw [List.append_nil]
  refine ⟨fun p hp => pre.ok _ (okm hp), fun a m => ?_, fun a m => .inr (own m), fun a m => ?_, fun _ _ _ => rfl, fun a m => .inr (by rw [callH_la hl] at m; exact m)⟩
  · rw [callH_la hl]; exact pre.sep a (own m)
  · have q := callH_pre.own_ioLa m
    rw [las_flat] at q
    obtain ⟨t, ht, ma⟩ := List.mem_flatMap.mp q
    have := ok_la t a (pre.ok t ht) ma
    exact ⟨this, this⟩
end
section
variable {P : Program} {w : World} {K : PySem.W.Frag} {mg : Str → Option Value} {base : Heap}
/-- what the run has: the def objects by their names -/
structure DynD (K : PySem.W.Frag) (mg : Str → Option Value) (d : Def) (f : Addr) (fd : FuncData) : Prop where
  F : Fun K d.x d.x d.st f fd
  m : mg d.x = some (.ref f)
  b : Binds K fd d.ps []
  kw : ∀ ks ∈ d.kk, ∀ ns : List Str, ks.map (fun j => d.ps[j]?) = ns.map some → KwB K fd d.ps ns ks
theorem prog_ok (ds : List Def) (G : List (Str × Int)) (adr : Nat → Addr) (fdf : Nat → FuncData) (hchk : ∀ d ∈ ds, chkD ds G d = true) (dyn : ∀ (i : Nat) (d : Def), ds[i]? = some d → DynD K mg d (adr i) (fdf i))
    (hG : ∀ x n, (x, n) ∈ G → ∃ t, mg x = some (.int n t)) (hblt : ∀ x : Str, (x == "len" || x == "sorted" || x == "list" || x == "tuple" || x == "range" || x == "all" || x == "any" || x == "sum" || x == "max" || x == "min" || x == "int" || x == "str" || x == "repr" || x == "isinstance" || x == "bool" || x == "dict" || x == "set" || x == "enumerate" || x == "zip" || x == "reversed") = true → mg x = none) :
    ∀ (k : Nat) (f : Nat) (d : Def), ds[f]? = some d → FnG P w K mg base k (adr f) (fdf f) d.ps (spD K (prgOf ds) (sgOf ds) k f)
  | 0, f, d, hf => ⟨fun vs H Q E h => by
      obtain ⟨ts, d, ds', _, _, h, _⟩ := h
      simp [callD] at h, fun A out s H as us vs Q E _ _ _ _ _ h => by
      obtain ⟨ts, d, ds', _, _, h, _⟩ := h
      simp [callD] at h⟩
  | k + 1, f, d, hf => by
    have ih := prog_ok ds G adr fdf hchk dyn hG hblt k
    have hc := hchk d (List.mem_of_getElem? hf)
    unfold chkD at hc
    simp only [Bool.and_eq_true, decide_eq_true_eq] at hc
    obtain ⟨⟨⟨⟨⟨c1, c2⟩, c3⟩, c4⟩, c5⟩, c6⟩ := hc
    have S := scopeB_ok c1
    have Dy := dyn f d hf
    have esg : sgOf ds f = d.sig := by unfold sgOf; rw [hf]
    have epr : prgOf ds f = some d.fn := by unfold prgOf; rw [hf]; rfl
    unfold fnOk at c5
    simp only [Bool.and_eq_true, decide_eq_true_eq, beq_iff_eq] at c5
    obtain ⟨⟨⟨⟨s1, s2⟩, s5⟩, s3⟩, s4⟩ := c5
    refine FnG.of Dy.F S (fun vs H Q E h => ?_) fun cv A out s H vs Q E hg hr h => ?_
    · obtain ⟨ts, d0, ds', rfl, pre, _, _⟩ := h
      have := pre.len
      rw [esg] at this
      show (ts.map T.val).length = _
      rw [List.length_map, ← this, s1, c3]
    · obtain ⟨ts, d0, ds', rfl, pre, hcall, hQ⟩ := h
      rw [esg] at pre hQ
      have hfb : funB (defScope d.st) = true := by
        unfold scopeB at c1
        simp only [Bool.and_eq_true] at c1
        exact c1.1.1.1.1.1.1
      let c : TC := { K := K, sp := spD K (prgOf ds) (sgOf ds) k, W := fun cls d _ H => E cls d H }
      have tk : Takes (cxOf (L2.CX P w) P w K mg base d.N d.x (defScope d.st) (adr f) cv A out s H E) c.W := takes_of rfl rfl rfl rfl
      have XO : XOk (mcOf ds G d) c (cxOf (L2.CX P w) P w K mg base d.N d.x (defScope d.st) (adr f) cv A out s H E) := by
        refine ⟨rfl, S.nd, rfl, fun x _ h => h, ⟨rfl, ?_, hg, hblt⟩, rfl, tk, fun f' n' ps' kk' hf' => ?_, hG⟩
        · show (A.deeper (envOfC d.x (defScope d.st) s.heap.objs.size (adr f) cv)).units + 200 < cLine; have := hr.un; omega
        · have hf2 : (ds[f']?).map (fun d => (d.x, d.ps, d.kk)) = some (n', ps', kk') := hf'
          simp only [Option.map_eq_some_iff] at hf2
          obtain ⟨d', hd', e⟩ := hf2
          cases e
          have D' := dyn f' d' hd'
          exact ⟨adr f', fdf f', k, ih f' d' hd', hr, D'.m, D'.F.kp, D'.b, D'.kw⟩
      refine ⟨_, peSs (passes_of rfl) XO hfb d.fn.body c6, ?_⟩
      have hl : d.sig.io.length = ts.length := pre.len
      have hps : ts.length = d.fn.ps := by rw [← hl]; exact s1
      unfold callD at hcall
      rw [epr] at hcall
      simp only [Option.bind_some] at hcall
      rw [if_pos (by rw [dats_len]; exact hps)] at hcall
      obtain ⟨out0, hv, hcall⟩ := Option.bind_eq_some_iff.mp hcall
      -- the check's answer
      obtain ⟨og, hty, hog⟩ : ∃ og, tySs (sgOf ds) d.sig d.fn.body (g0Of d.sig.io (d.fn.n - d.fn.ps)) = some og ∧ ∀ g, og = some g → ioOk d.sig.out g = true := by
        unfold g0Of
        split at s4
        · rename_i g e; exact ⟨_, e, fun g' e' => by cases e'; exact s4⟩
        · rename_i e; exact ⟨_, e, fun g' e' => by cases e'⟩
        · cases s4
      have G0 := start_good (r := d.sig.res) (o := d.sig.out) (io := d.sig.io) pre
      rw [← slots_start (m := d.fn.n - d.fn.ps) (m' := d.fn.n - ts.length) hl] at G0
      have lenT : (ts.map some ++ List.replicate (d.fn.n - ts.length) (none : Option T)).length = d.fn.n := by
        rw [List.length_append, List.length_map, List.length_replicate]; omega
      have eσ : start d.N (vals ts) = ts.map (fun t => some t.val) ++ List.replicate (d.fn.n - ts.length) none := by
        show (vals ts).map some ++ List.replicate (d.N.length - (vals ts).length) none = _
        rw [← c2, show (vals ts).length = ts.length from List.length_map _]
        congr 1
        exact List.map_map ..
      have eρ : startD d.fn.n (T.dats ts) = ts.map (fun t => some t.dat) ++ List.replicate (d.fn.n - ts.length) none := by
        unfold startD
        rw [dats_len, dats_map, List.map_map]; rfl
      have R0 : Rel d.fn.n (startD d.fn.n (T.dats ts)) (g0Of d.sig.io (d.fn.n - d.fn.ps)) (ts.map some ++ List.replicate (d.fn.n - ts.length) none) (start d.N (vals ts)) := by
        rw [eσ, eρ]
        refine ⟨by rw [List.length_append, List.length_map, List.length_replicate]; omega, lenT, by rw [List.length_append, List.length_map, List.length_replicate]; omega, fun i kk hi e => ?_⟩
        by_cases c : i < ts.length
        · refine ⟨ts[i], ?_, ?_, ?_⟩
          · exact oD_of (by rw [List.getElem?_append_left (by rw [List.length_map]; exact c), List.getElem?_map, List.getElem?_eq_getElem c]; rfl)
          · exact oD_of (by rw [List.getElem?_append_left (by rw [List.length_map]; exact c), List.getElem?_map, List.getElem?_eq_getElem c]; rfl)
          · rw [List.getElem?_append_left (by rw [List.length_map]; exact c), List.getElem?_map, List.getElem?_eq_getElem c]; rfl
        · exfalso
          have e' : oD (g0Of d.sig.io (d.fn.n - d.fn.ps)) i = none := by
            unfold g0Of oD
            rw [List.getElem?_append_right (by rw [List.length_map]; omega), List.getElem?_replicate]
            split <;> rfl
          rw [show gD _ i = _ from e'] at e
          cases e
      have fin : ∀ (d1 : D) (t1 : T) (ρ' : REnv) (g' : Gam) (τ' : Tau) (σ' : L2.St) (H' : Hp), Rel d.fn.n ρ' g' τ' σ' → Good K H (ioOwn d.sig.io ts) (T.las ts) H' ((t1, d.sig.res) :: (slots g' τ' ++ [])) → ioOk d.sig.out g' = true → t1.dat = d1 → (∀ i, i ∉ fnOk.asgs d.fn.body → σ'[i]? = (start d.N (vals ts))[i]?) →
          (d1, (List.range d.fn.ps).map fun j => (getD ρ' j).getD .non) = (d0, ds') → Q t1.val H' := fun d1 t1 ρ' g' τ' σ' H' r' G' io ed fσ e0 => by
        cases e0
        have le := ioOk_le io
        have lτ : d.sig.out.length ≤ τ'.length := by rw [r'.lτ, s5]; exact s2
        have al : ∀ (j : Nat) (k : OH.Dp), d.sig.out[j]? = some (some k) → ∃ t, oD τ' j = some t ∧ getD ρ' j = some t.dat ∧ σ'[j]? = some (some t.val) := fun j k e => by
          obtain ⟨k1, e1, _⟩ := le.some (oD_of e)
          have hj : j < d.fn.n := by
            have := (List.getElem?_eq_some_iff.mp e).1
            omega
          exact r'.at_ j k1 hj e1
        have G2 : Good K H (ioOwn d.sig.io ts) (T.las ts) H' ((t1, d.sig.res) :: ioHold d.sig.out (trees d.sig.out.length τ')) := by
          have q := (G'.inR1.weakS le).perm List.perm_middle
          rw [slots_end lτ (fun j k e => by obtain ⟨t, h1, _⟩ := al j k e; rw [h1]; rfl), List.append_nil] at q
          exact q
        have tl : (trees d.sig.out.length τ').length = ts.length := by
          unfold trees
          rw [List.length_map, List.length_take]; omega
        refine hQ t1 (trees d.sig.out.length τ') H' ⟨tl, fun j k t u a b c => ?_, G2⟩ ed ⟨by rw [List.length_map, List.length_range, tl, hps], fun j k u a b => ?_⟩
        · obtain ⟨u', h1, _, h3⟩ := al j k a
          have hj := (List.getElem?_eq_some_iff.mp a).1
          rw [trees_get h1 hj] at c
          cases c
          have na : j ∉ fnOk.asgs d.fn.body := fun z => by
            have m : (some k, j) ∈ d.sig.out.zipIdx := List.mem_zipIdx_iff_getElem?.mpr a
            have q := List.all_eq_true.mp s3 (some k, j) m
            simp only [Bool.not_eq_true', decide_eq_false_iff_not] at q
            exact q z
          rw [fσ j na, eσ] at h3
          have hjt : j < ts.length := by omega
          rw [List.getElem?_append_left (by rw [List.length_map]; exact hjt), List.getElem?_map, b] at h3
          simpa using h3.symm
        · obtain ⟨u', h1, h2, _⟩ := al j k a
          have hj := (List.getElem?_eq_some_iff.mp a).1
          rw [trees_get h1 hj] at b
          cases b
          rw [List.getElem?_map, List.getElem?_range (by omega)]
          simp only [Option.map_some]
          rw [h2]; rfl
      refine svs_ok (H0 := H) (IO := ioOwn d.sig.io ts) (SR := T.las ts) d.fn.body c4 c d.fn.n _ _ _ _ H og [] _ out0 spD_call hty hv R0 G0 ⟨fun ρ' g' τ' σ' H' e1 e2 r' G' _ f2 => ?_, fun d1 t1 ρ' g' τ' σ' H' e1 r' G' io ed f2 => ?_⟩
      · subst e1
        simp only [Option.some.injEq] at hcall
        exact fin .non .non ρ' g' τ' σ' H' r' (G'.plain (by simp [T.ok]) (by simp [T.la])) (hog g' e2) rfl f2 hcall
      · subst e1
        simp only [Option.some.injEq] at hcall
        exact fin d1 t1 ρ' g' τ' σ' H' r' G' io ed f2 hcall
end
end OH

namespace OH
open PySem PySem.Spec PyProof.Rows L2
abbrev lstObj (vs : List Value) : Obj := { cls := .type "list", data := .seq vs.toArray }
/-- the heap in which nothing but the script stands, and it is only read -/
theorem first_heap {P : Program} {w : World} {K : PySem.W.Frag} {h : Heap} {a : Addr} {vs : List Value} {ns : List Int} (KX : K.In h) (ha : h.get? a = some (lstObj vs)) (hi : IntsAre vs ns) (hl : ns.length ≤ sizeLine) :
    ∃ H : Hp, Only H ∧ Fz K H a (ns.map V.int) ∧ HOk P w H h ∧ (∀ b, H b ≠ none → b = a) ∧ (H a ≠ none → K.lookup a = none) := by
  have rv := L2.vals_ints hi
  have lv := hi.length
  by_cases hk : K.lookup a = none
  · refine ⟨fun b => if b = a then some (.frz (lstObj vs) (.lst (ns.map V.int))) else none, fun b => ?_, .inl ⟨_, if_pos rfl⟩, fun b u e => ?_, fun b e => ?_, fun _ => hk⟩
    · by_cases c : b = a
      · exact .inr ⟨_, _, if_pos c⟩
      · exact .inl (if_neg c)
    · by_cases c : b = a
      · simp only [if_pos c, Option.some.injEq] at e
        rw [c, ← e]
        exact ⟨ha, by rw [List.length_map]; exact hl, vs, _, rv, ha⟩
      · simp only [if_neg c] at e
        cases e
    · by_cases c : b = a
      · exact c
      · exact absurd (if_neg c) e
  · obtain ⟨o, ho⟩ := Option.ne_none_iff_exists'.mp hk
    have q := KX a o ho
    rw [ha] at q
    cases q
    refine ⟨fun _ => none, fun _ => .inl rfl, .inr ⟨_, vs.toArray, _, ho, rfl, rfl, rfl, ?_, by simpa using rv⟩, fun b u e => (by cases e), fun b e => absurd rfl e, fun e => absurd rfl e⟩
    rw [List.size_toArray, lv]
    exact hl
theorem law_G {P : Program} {w : World} {K : PySem.W.Frag} {mg mb : Str → Option Value} {k : Nat} {fa a : Addr} {fd : FuncData} {x : Str} {sp : Sp} {s : Shared} {vs : List Value} {ns : List Int} (KX : K.In s.heap) (hns : s.heap.Ns mainGlobals mg) (hb : s.heap.Ns builtinsNs mb)
    (hbb : ∀ y : Str, y ≠ "__name__" → mb y = bootBuiltins y) (hlim : s.heap.NoLimit) (hg : s.gens = #[]) (ha : s.heap.get? a = some (lstObj vs)) (hi : IntsAre vs ns) (hl : ns.length ≤ sizeLine) (hr : Room k callerA)
    (F : ∀ base : Heap, K.In base → base.Ns mainGlobals mg → FnG P w K mg base k fa fd [x] sp) (hbind : ∀ (t : Shared) (u : Value), BindsTo t fd ⟨[u], []⟩ [(x, u)])
    (hsp : ∀ H : Hp, Only H → Fz K H a (ns.map V.int) → sp [.ref a] H (fun v _ => v = .bl true) fun _ _ _ => False) :
    codeAny (model P w) callerA (.call (.ref fa) ⟨[.ref a], []⟩) (fun r t => r = .ok (.ret (.bool true)) ∧ OldK s.heap t.heap ∧ t.os = s.os ∧ AllBare t.gens) s := by
  obtain ⟨H, hO, hF, hok, hA, hK⟩ := first_heap (P := P) (w := w) KX ha hi hl
  have free : ∀ (b : Addr) (o : Obj), s.heap.get? b = some o → (b = a → False) → (hidT s.heap H).get? b = some o := fun b o e n => by
    refine hidT_get e ?_
    by_cases c : H b = none
    · exact c
    · exact absurd (hA b c) n
  have notA : ∀ (b : Addr) (o : Obj) (es : Array DictEntry) (ep : Nat), s.heap.get? b = some o → o.data = .dict es ep → b = a → False := fun b o es ep e d c => by
    rw [c, ha] at e
    cases e
    exact nomatch (show Data.seq vs.toArray _ = Data.dict es ep from d)
  have ns1 : ∀ (b : Addr) (m : Str → Option Value), s.heap.Ns b m → (hidT s.heap H).Ns b m := fun b m q => by
    obtain ⟨o, es, ep, e, d, r⟩ := q
    exact ⟨o, es, ep, free b o e (notA b o es ep e d), d, r⟩
  have hin : K.In (hidT s.heap H) := fun b o e => by
    by_cases c : H b = none
    · exact hidT_get (KX b o e) c
    · have z := hA b c
      subst z
      rw [hK c] at e; cases e
  have md : Mod K mg (hidT s.heap H) := by
    obtain ⟨mc, l1, l2⟩ := hlim
    exact ⟨hin, ns1 _ _ hns, ⟨mb, ns1 _ _ hb, hbb⟩, ⟨mc, ns1 _ _ l1, l2⟩⟩
  have start : Env0 P w K mg (hidT s.heap H) callerA [] s H :=
    ⟨rfl, md, fun b o e => of_hidT e, Nat.le_of_eq (hidT_size _ _), trivial, fun b z => absurd (show b ∈ ([] : List Addr) from z) List.not_mem_nil, hok, .of_eq hg⟩
  have run := (F _ hin (ns1 _ _ hns)).go callerA [] s H ⟨[.ref a], []⟩ [.ref a] [.ref a] (fun v _ => v = .bl true) (fun _ _ _ => False) rfl hr start (hbind s (.ref a)) (.cons rfl .nil) (hsp H hO hF)
  refine codeAny_mono run fun r t q => ?_
  match r, q with
  | .error e, q =>
    obtain ⟨_, _, _, _, _, _, _, _, _, _, _, _, z⟩ := q
    exact z.elim
  | .ok .next, q => exact False.elim q
  | .ok .brk, q => exact False.elim q
  | .ok .cont, q => exact False.elim q
  | .ok (.ret u), q =>
    obtain ⟨v, H2, e1, e2, un, hok2, rv, ev⟩ := q
    have ev' : v = .bl true := ev
    rw [ev'] at rv
    have eu : u = Value.bool true := rv
    refine ⟨by rw [eu], OldK.of_keep fun b o e => ?_, e1, e2⟩
    by_cases c : H b = none
    · exact un.keep b o e c (fun z => absurd (show b ∈ ([] : List Addr) from z) List.not_mem_nil) (by simp)
    · rcases hO b with z | ⟨ob, xs, z⟩
      · exact absurd z c
      · have z2 := un.frzs b ob _ z
        have p1 := (hok b _ z).1
        have p2 := (hok2 b _ z2).1
        rw [p1] at e
        cases e
        exact p2
/-- the law holds where its def keeps its promise -/
theorem walk_G {l : PySem.W.OpenLaw} {n k : Nat} {q : Program} {loose : List Str} {XP : (Str → Option Value) → Heap → Prop} {YP : World → Heap → Prop} {d : DefRec} {K : Params → PySem.W.Frag} {sp : World → Sp} {x : Str} (hn : l.most = some n) (hn2 : n ≤ sizeLine) (hdf : d.params.defaults = [])
    (hr : Room k callerA) (hY : ∀ (w : World) (h : Heap), YP w h → (K w.params).In h)
    (F : ∀ (w : World) (mg : Str → Option Value) (fa : Addr) (h : Heap), (K w.params).In h → h.Ns mainGlobals mg → mg d.name = some (.ref fa) → ∃ fd : FuncData, (∀ (t : Shared) (u : Value), BindsTo t fd ⟨[u], []⟩ [(x, u)]) ∧
      ∀ base : Heap, (K w.params).In base → base.Ns mainGlobals mg → FnG l.prog w (K w.params) mg base k fa fd [x] (sp w))
    (hsp : ∀ (w : World) (H : Hp) (a : Addr) (ns : List Int), ns.length ≤ n → Only H → Fz (K w.params) H a (ns.map V.int) → sp w [.ref a] H (fun v _ => v = .bl true) fun _ _ _ => False) : PySem.W.WalkO q loose XP YP l.row.toRowW d [] (fun f vs => PySem.call f vs) := by
  refine Att.attach_call hn hdf ?_
  intro w s0 s1 mg mb fa o pm cd doc a vs ns G Y ho hd hcd hmg hobj hints hlen hg
  have KX := hY w s1.heap Y
  obtain ⟨fd, hb, hF⟩ := F w mg fa s1.heap KX G.T.g hmg
  exact law_G KX G.T.g G.T.b G.T.builtins G.T.nolimit hg hobj hints (Nat.le_trans hlen hn2) hr hF hb fun H hO hS => hsp w H a ns hlen hO hS
/-- what is asked of the law's def by values alone -/
theorem law_sp {K : PySem.W.Frag} {P : Prg} {sg : Nat → Sig} {k f : Nat} {H : Hp} {a : Addr} {ns : List Int} {E : XK} (hs : sg f = ⟨[none], .om, [none]⟩) (h : ∃ ds', callD P k f [.fzl (ns.map D.int)] = some (.bl true, ds')) (hF : Fz K H a (ns.map V.int)) :
    spD K P sg k f [.ref a] H (fun v _ => v = .bl true) E := by
  obtain ⟨ds', h⟩ := h
  refine ⟨[.fz a (ns.map T.int)], .bl true, ds', rfl, ?_, ?_, fun t' ts' H' O ed _ => by rw [dat_bl ed]; rfl⟩
  · rw [hs]
    refine ⟨rfl, fun t ht => ?_, fun b m => ?_⟩
    · rw [List.mem_singleton.mp ht]
      unfold T.ok
      refine ⟨by rw [vals_ints]; exact hF, oks_iff.mpr fun t ht => ?_⟩
      obtain ⟨i, _, rfl⟩ := List.mem_map.mp ht
      simp [T.ok]
    · simp [ioOwn] at m
  · rw [show T.dats [.fz a (ns.map T.int)] = [.fzl (ns.map D.int)] from by simp [T.dats, T.dat, dats_mapint]]
    exact h
end OH

namespace OH
open PySem PySem.Spec PyProof.Rows L2
/-- how a def's parameters are bound -/
structure BindsD (d : Def) : Prop where
  b : ∀ (kV doc pm : Value) (an : Option Addr) (cdv ct : Value) (us : List Value), us.length = d.ps.length → bindArgs (PySem.W.fnOf d.x d.x (defArgs d.st) (defBody d.st) (defScope d.st) .none kV doc pm an cdv ct) ⟨us, []⟩ = pure (d.ps.zip us)
  kw : ∀ ks ∈ d.kk, ∀ (kV doc pm : Value) (an : Option Addr) (cdv ct : Value) (ws : List Value), ws.length = ks.length → bindArgs (PySem.W.fnOf d.x d.x (defArgs d.st) (defBody d.st) (defScope d.st) .none kV doc pm an cdv ct) ⟨[], (ks.filterMap fun j => d.ps[j]?).zip ws⟩ = pure (d.ps.zip (arrange ws ks))
def defD (d : Def) : He.DefD := ⟨(d.x, none), d.x, d.x, defArgs d.st, defBody d.st, defScope d.st, [], []⟩
def blts : List Str := ["len", "sorted", "list", "tuple", "range", "all", "any", "sum", "max", "min", "int", "str", "repr", "isinstance", "bool", "dict", "set", "enumerate", "zip", "reversed"]
def facts (ds : List Def) (G : List (Str × Int)) : List He.Fa := ds.map (fun d => He.Fa.glo d.x) ++ (G.map (fun p => He.Fa.int p.1 p.2) ++ blts.map He.Fa.free)
section
variable {K : PySem.W.Frag} {h : Heap} {mg : Str → Option Value} {ds : List Def} {G : List (Str × Int)}
theorem fun_of {d : Def} {f : Addr} {fd : FuncData} (F : FunD K d.x d.x (defArgs d.st) (defBody d.st) (defScope d.st) [] [] f fd) : Fun K d.x d.x d.st f fd := by
  obtain ⟨oc, od, dV, kV, doc, pm, an, cdv, ct, osl, e, lk, hcd, hD, hK⟩ := F.ex
  rcases hD with ⟨_, e2⟩ | ⟨e2, _⟩
  · subst e2
    exact ⟨⟨oc, od, kV, doc, pm, an, cdv, ct, osl, e, lk, hcd⟩, F.kp⟩
  · exact absurd rfl e2
theorem names_of {ps ns : List Str} : ∀ {ks : List Nat} {ns : List Str}, ks.map (fun j => ps[j]?) = ns.map some → ns = ks.filterMap fun j => ps[j]?
  | [], [], _ => rfl
  | [], _ :: _, h => by simp at h
  | _ :: _, [], h => by simp at h
  | k :: ks, n :: ns, h => by
    simp only [List.map_cons, List.cons.injEq] at h
    rw [List.filterMap_cons, h.1]
    simp only
    rw [← names_of (ps := ps) (ns := ns) (ks := ks) h.2]
theorem dyn_of {d : Def} {f : Addr} {fd : FuncData} (F : Fun K d.x d.x d.st f fd) (hm : mg d.x = some (.ref f)) (B : BindsD d) : DynD K mg d f fd := by
  obtain ⟨oc, od, kV, doc, pm, an, cdv, ct, osl, rfl, lk, hcd⟩ := F.ex
  refine ⟨F, hm, .all (B.b kV doc pm an cdv ct), fun ks hk ns hn s ws _ hl => ?_⟩
  have e := names_of (ps := d.ps) (ns := ns) hn
  have l : ns.length = ks.length := by
    have := congrArg List.length hn
    simpa using this.symm
  rw [e]
  exact .of_eq (B.kw ks hk kV doc pm an cdv ct ws (hl.trans l))
theorem fact_mem {fa : List He.Fa} {fn : List He.DefD} (c : He.SaysD fa fn K) {f : He.Fa} (h : f ∈ fa) : f.ok K = true := by
  obtain ⟨i, hi⟩ := List.mem_iff_getElem?.mp h
  exact c.fact i hi
theorem head_ok (X : K.In h) (Gm : h.Ns mainGlobals mg) (c : He.SaysD (facts ds G) (ds.map defD) K) (hb : ∀ d ∈ ds, BindsD d) :
    (∃ fdf : Nat → FuncData, ∀ (i : Nat) (d : Def), ds[i]? = some d → DynD K mg d (He.ga K d.x) (fdf i)) ∧ (∀ x n, (x, n) ∈ G → ∃ t, mg x = some (.int n t)) ∧ ∀ x ∈ blts, mg x = none := by
  have fac : ∀ f ∈ facts ds G, f.ok K = true := fun f hf => fact_mem c hf
  have one : ∀ (i : Nat), ∃ fd : FuncData, ∀ d : Def, ds[i]? = some d → DynD K mg d (He.ga K d.x) fd := fun i => by
    cases e : ds[i]? with
    | none => exact ⟨default, fun d h => by cases h⟩
    | some d =>
      have e2 : (ds.map defD)[i]? = some (defD d) := by rw [List.getElem?_map, e]; rfl
      obtain ⟨fd, F⟩ := c.def_ i e2
      have F' : FunD K d.x d.x (defArgs d.st) (defBody d.st) (defScope d.st) [] [] (He.ga K d.x) fd := F
      have hm : mg d.x = some (.ref (He.ga K d.x)) := He.glo_ok X Gm (fac _ (List.mem_append_left _ (List.mem_map.mpr ⟨d, List.mem_of_getElem? e, rfl⟩)))
      refine ⟨fd, fun d' h' => ?_⟩
      cases h'
      exact dyn_of (fun_of F') hm (hb d (List.mem_of_getElem? e))
  refine ⟨⟨fun i => (one i).choose, fun i d hd => (one i).choose_spec d hd⟩, fun x n hx => ?_, fun x hx => ?_⟩
  · exact He.int_ok X Gm (fac (.int x n) (List.mem_append_right _ (List.mem_append_left _ (List.mem_map.mpr ⟨(x, n), hx, rfl⟩))))
  · exact He.free_ok X Gm (fac (.free x) (List.mem_append_right _ (List.mem_append_right _ (List.mem_map.mpr ⟨x, hx, rfl⟩))))
end
/-- a law, from what its program's evaluator gives -/
theorem law_end {l : PySem.W.OpenLaw} {k : Nat} {q : Program} {loose : List Str} {XP : (Str → Option Value) → Heap → Prop} {d : DefRec} (ds : List Def) (G : List (Str × Int)) (fl : Nat) (dl : Def) (hn : l.most = some 63) (hdf : d.params.defaults = []) (hr : Room k callerA)
    (hl : ds[fl]? = some dl) (hlx : d.name = dl.x) (hlp : dl.ps = [("script" : Str)]) (hls : dl.sig = ⟨[none], .om, [none]⟩) (hchk : ∀ d ∈ ds, chkD ds G d = true) (hb : ∀ d ∈ ds, BindsD d)
    (hP : ∀ ns : List Int, ns.length ≤ 63 → ∃ ds', callD (prgOf ds) k fl [.fzl (ns.map D.int)] = some (.bl true, ds')) :
    PySem.W.WalkO q loose XP (fun (_ : World) (h : Heap) => ∃ K : PySem.W.Frag, K.In h ∧ He.SaysD (facts ds G) (ds.map defD) K) l.row.toRowW d [] (fun f vs => PySem.call f vs) := by
  refine Att.attach_call hn hdf ?_
  intro w s0 s1 mg mb fa o pm cd doc a vs ns Gg Y ho hd hcd hmg hobj hints hlen hg
  obtain ⟨K, KX, c⟩ := Y
  obtain ⟨⟨fdf, dyn⟩, hG, hblt⟩ := head_ok KX Gg.T.g c hb
  have hbl : ∀ x : Str, (x == "len" || x == "sorted" || x == "list" || x == "tuple" || x == "range" || x == "all" || x == "any" || x == "sum" || x == "max" || x == "min" || x == "int" || x == "str" || x == "repr" || x == "isinstance" || x == "bool" || x == "dict" || x == "set" || x == "enumerate" || x == "zip" || x == "reversed") = true → mg x = none := fun x hx => by
    refine hblt x ?_
    simp only [Bool.or_eq_true, beq_iff_eq] at hx
    simp only [blts, List.mem_cons, List.not_mem_nil, or_false]
    simpa only [or_assoc] using hx
  have D := dyn fl dl hl
  have efa : fa = He.ga K dl.x := by
    have := D.m
    rw [← hlx, hmg] at this
    have z := Value.ref.inj (Option.some.inj this)
    rw [z, hlx]
  subst efa
  have bnd : ∀ (t : Shared) (u : Value), BindsTo t (fdf fl) ⟨[u], []⟩ [(("script" : Str), u)] := fun t u => by
    have B := hb dl (List.mem_of_getElem? hl)
    obtain ⟨oc, od, kV, doc, pm, an, cdv, ct, osl, e, lk, hcd⟩ := D.F.ex
    rw [e]
    have z := B.b kV doc pm an cdv ct [u] (by rw [hlp]; rfl)
    rw [hlp] at z
    exact .of_eq z
  have F : ∀ base : Heap, K.In base → base.Ns mainGlobals mg → FnG l.prog w K mg base k (He.ga K dl.x) (fdf fl) [("script" : Str)] (spD K (prgOf ds) (sgOf ds) k fl) := fun base _ _ => by
    have q := prog_ok (P := l.prog) (w := w) (base := base) ds G (fun i => He.ga K ((ds[i]?).map (·.x)).get!) fdf hchk (fun i d hd => by
      have := dyn i d hd
      rw [hd]; exact this) hG hbl k fl dl hl
    rw [hl, hlp] at q
    exact q
  exact law_G KX Gg.T.g Gg.T.b Gg.T.builtins Gg.T.nolimit hg hobj hints (Nat.le_trans hlen (by decide)) hr F bnd fun H hO hS => law_sp (by unfold sgOf; rw [hl]; exact hls) (hP ns hlen) hS
end OH

namespace OH
open PySem L2
def G : List (Str × Int) := [("MOST_LISTED", 6), ("MOST_SIZE", 8)]
def top (i : Nat) : Stmt := PySem.Challenge.pw_ordersheld_k92_whole_patterns_in_rounds.main.body.getD i (.Pass ⟨0, 0, 0, 0⟩)
/-- is_whole(value): 0 value -/
def f0 : Fn := ⟨1, 1, [
  .ret (.and (.op (.isi "int") [.vin 0]) (.not (.op (.isi "bool") [.vin 0])))]⟩
def d0 : Def := ⟨"is_whole", top 8, ["value"], ["value"], f0, ⟨[none], .om, [none]⟩, []⟩
/-- is_order_by(value): 0 value, 1 one -/
def f1 : Fn := ⟨1, 2, [
  .iff (.or (.not (.op (.isi "list") [.vin 0])) (.or (.not (.chn (.int 1) .le (.op .len [.vin 0]) .le (.gint "MOST_SIZE" 8))) (.not (.op .all [.comp (.nm 1) [1] .list [.vin 0] [] (.call 0 [.scal (.var 1)])])))) [
    .ret (.bl false)] [],
  .ret (.op .eq [.op .srt [.vin 0], .op .lr1 [.op .len [.vin 0]]])]⟩
def d1 : Def := ⟨"is_order_by", top 9, ["value", "one"], ["value"], f1, ⟨[none], .om, [none]⟩, []⟩
/-- check_order(order): 0 order -/
def f2 : Fn := ⟨1, 1, [
  .iff (.not (.call 1 [.mov 0])) [
    .raise] []]⟩
def d2 : Def := ⟨"check_order", top 10, ["order"], ["order"], f2, ⟨[none], .om, [none]⟩, []⟩
/-- check_pattern(pattern): 0 pattern -/
def f3 : Fn := ⟨1, 1, [
  .iff (.not (.call 1 [.mov 0])) [
    .raise] []]⟩
def d3 : Def := ⟨"check_pattern", top 11, ["pattern"], ["pattern"], f3, ⟨[none], .om, [none]⟩, []⟩
/-- check_size(size): 0 size -/
def f4 : Fn := ⟨1, 1, [
  .iff (.or (.not (.call 0 [.scal (.var 0)])) (.not (.chn (.int 1) .le (.scal (.var 0)) .le (.gint "MOST_SIZE" 8)))) [
    .raise] []]⟩
def d4 : Def := ⟨"check_size", top 12, ["size"], ["size"], f4, ⟨[none], .om, [none]⟩, []⟩
/-- pattern_by(values): 0 values, 1 ranks, 2 one -/
def f5 : Fn := ⟨1, 3, [
  .asg (.nm 1) (.op .srt [.vin 0]),
  .ret (.comp (.nm 2) [2] .list [.mov 0] [] (.op .index [.vin 1, .vin 2]))]⟩
def d5 : Def := ⟨"pattern_by", top 13, ["values", "ranks", "one"], ["values"], f5, ⟨[none], .om, [none]⟩, []⟩
/-- at_lot(order, lot): 0 order, 1 lot, 2 place -/
def f6 : Fn := ⟨2, 3, [
  .ret (.call 5 [.comp (.nm 2) [2] .list [.mov 1] [] (.scal (.op .ix [.vin 0, .vin 2]))])]⟩
def d6 : Def := ⟨"at_lot", top 14, ["order", "lot", "place"], ["order", "lot"], f6, ⟨[none, none], .om, [none, none]⟩, []⟩
/-- lots_sized(many, size): 0 many, 1 size, 2 found, 3 _, 4 longer, 5 lot, 6 one -/
def f7 : Fn := ⟨2, 7, [
  .asg (.nm 2) (.op .lst [.op .lst []]),
  .forr (.nm 3) .r1 [.vin 1] [
    .asg (.nm 4) (.op .lst []),
    .forr (.nm 5) .list [.mov 2] [
      .asg (.nm 4) (.op .add [.mov 4, .comp (.nm 6) [6] .r2 [.ite (.op .ne [.vin 5, .op .lst []]) (.op .add [.op .ix [.vin 5, .op .neg [.int 1]], .int 1]) (.int 0), .vin 0] [] (.op .add [.vin 5, .op .lst [.scal (.var 6)]])])] [5, 6],
    .asg (.nm 2) (.mov 4)] [3, 4, 5, 6],
  .ret (.tall 2 (.mov 2))]⟩
def d7 : Def := ⟨"lots_sized", top 15, ["many", "size", "found", "_", "longer", "lot", "one"], ["many", "size"], f7, ⟨[none, none], .om, [none, none]⟩, []⟩
/-- all_orders(size): 0 size, 1 found, 2 _, 3 row, 4 one -/
def f8 : Fn := ⟨1, 5, [
  .asg (.nm 1) (.op .lst [.op .lst []]),
  .forr (.nm 2) .r1 [.vin 0] [
    .asg (.nm 1) (.comp2 (.nm 3) [3, 4] .list [.mov 1] [] (.nm 4) [4] .r1 [.vin 0] [.op .notin [.vin 4, .vin 3]] (.op .add [.vin 3, .op .lst [.scal (.var 4)]]))] [2, 3, 4],
  .ret (.tall 2 (.mov 1))]⟩
def d8 : Def := ⟨"all_orders", top 16, ["size", "found", "_", "row", "one"], ["size"], f8, ⟨[none], .om, [none]⟩, []⟩
/-- turned_by(order, many): 0 order, 1 many -/
def f9 : Fn := ⟨2, 2, [
  .ret (.tall 1 (.op .add [.op (.sl true false) [.vin 0, .vin 1], .op (.sl false true) [.mov 0, .vin 1]]))]⟩
def d9 : Def := ⟨"turned_by", top 19, ["order", "many"], ["order", "many"], f9, ⟨[none, none], .om, [none, none]⟩, []⟩
/-- round_lot(order, pattern): 0 order, 1 pattern, 2 many, 3 lot -/
def f10 : Fn := ⟨2, 4, [
  .forr (.nm 2) .r1 [.op .len [.vin 0]] [
    .forr (.nm 3) .list [.call 7 [.op .len [.vin 0], .op .len [.vin 1]]] [
      .iff (.op .eq [.call 6 [.call 9 [.var 0, .scal (.var 2)], .var 3], .vin 1]) [
        .ret (.op .tup [.scal (.var 2), .mov 3])] []] [3]] [2, 3],
  .ret .non]⟩
def d10 : Def := ⟨"round_lot", top 20, ["order", "pattern", "many", "lot"], ["order", "pattern"], f10, ⟨[none, none], .om, [none, none]⟩, []⟩
/-- held_in_round(order, pattern): 0 order, 1 pattern -/
def f11 : Fn := ⟨2, 2, [
  .ex (.call 2 [.var 0]),
  .ex (.call 3 [.var 1]),
  .ret (.call 10 [.mov 0, .mov 1])]⟩
def d11 : Def := ⟨"held_in_round", top 21, ["order", "pattern"], ["order", "pattern"], f11, ⟨[none, none], .om, [none, none]⟩, [[1, 0]]⟩
/-- round_free(size, pattern): 0 size, 1 pattern, 2 order -/
def f12 : Fn := ⟨2, 3, [
  .ex (.call 4 [.scal (.var 0)]),
  .ex (.call 3 [.var 1]),
  .iff (.op .gt [.vin 0, .gint "MOST_LISTED" 6]) [
    .raise] [],
  .ret (.comp (.nm 2) [2] .list [.call 8 [.scal (.var 0)]] [.and (.op .eq [.op .ix [.vin 2, .int 0], .int 0]) (.op .isN [.call 10 [.var 2, .var 1]])] (.mov 2))]⟩
def d12 : Def := ⟨"round_free", top 22, ["size", "pattern", "order"], ["size", "pattern"], f12, ⟨[none, none], .om, [none, none]⟩, [[1, 0]]⟩
/-- _law_first(order, pattern): 0 order, 1 pattern, 2 many, 3 turned, 4 lots, 5 lot, 6 place -/
def f13 : Fn := ⟨2, 7, [
  .forr (.nm 2) .r1 [.op .len [.vin 0]] [
    .asg (.nm 3) (.op .add [.op (.sl true false) [.vin 0, .vin 2], .op (.sl false true) [.vin 0, .vin 2]]),
    .asg (.nm 4) (.comp (.nm 5) [5] .list [.call 16 [.op .len [.vin 0], .op .len [.vin 1]]] [.op .eq [.call 15 [.comp (.nm 6) [6] .list [.vin 5] [] (.scal (.op .ix [.vin 3, .vin 6]))], .vin 1]] (.mov 5)),
    .iff (.op .ne [.vin 4, .op .lst []]) [
      .ret (.op .tup [.scal (.var 2), .op .ix [.mov 4, .int 0]])] []] [2, 3, 4, 5, 6],
  .ret .non]⟩
def d13 : Def := ⟨"_law_first", top 24, ["order", "pattern", "many", "turned", "lots", "lot", "place"], ["order", "pattern"], f13, ⟨[none, none], .om, [none, none]⟩, []⟩
/-- _law_order(purse, size): 0 purse, 1 size -/
def f14 : Fn := ⟨2, 2, [
  .ret (.call 18 [.ref 0, .op .lr1 [.vin 1]])]⟩
def d14 : Def := ⟨"_law_order", top 25, ["purse", "size"], ["purse", "size"], f14, ⟨[some .om, none], .om, [some .om, none]⟩, []⟩
/-- _law_pattern(values): 0 values, 1 ranks, 2 one -/
def f15 : Fn := ⟨1, 3, [
  .asg (.nm 1) (.op .srt [.vin 0]),
  .ret (.comp (.nm 2) [2] .list [.mov 0] [] (.op .index [.vin 1, .vin 2]))]⟩
def d15 : Def := ⟨"_law_pattern", top 26, ["values", "ranks", "one"], ["values"], f15, ⟨[none], .om, [none]⟩, []⟩
/-- _law_lots_sized(many, size): 0 many, 1 size, 2 found, 3 step, 4 longer, 5 lot, 6 one -/
def f16 : Fn := ⟨2, 7, [
  .asg (.nm 2) (.op .lst [.op .lst []]),
  .forr (.nm 3) .r1 [.vin 1] [
    .asg (.nm 4) (.op .lst []),
    .forr (.nm 5) .list [.mov 2] [
      .asg (.nm 4) (.op .add [.mov 4, .comp (.nm 6) [6] .r2 [.ite (.op .ne [.vin 5, .op .lst []]) (.op .add [.op .ix [.vin 5, .op .neg [.int 1]], .int 1]) (.int 0), .vin 0] [] (.op .add [.vin 5, .op .lst [.scal (.var 6)]])])] [5, 6],
    .asg (.nm 2) (.mov 4)] [3, 4, 5, 6],
  .ret (.tall 2 (.mov 2))]⟩
def d16 : Def := ⟨"_law_lots_sized", top 27, ["many", "size", "found", "step", "longer", "lot", "one"], ["many", "size"], f16, ⟨[none, none], .om, [none, none]⟩, []⟩
/-- _law_orders(size): 0 size, 1 found, 2 step, 3 longer, 4 row, 5 one -/
def f17 : Fn := ⟨1, 6, [
  .asg (.nm 1) (.op .lst [.op .lst []]),
  .forr (.nm 2) .r1 [.vin 0] [
    .asg (.nm 3) (.op .lst []),
    .forr (.nm 4) .list [.mov 1] [
      .asg (.nm 3) (.op .add [.mov 3, .comp (.nm 5) [5] .r1 [.vin 0] [.op .notin [.vin 5, .vin 4]] (.op .add [.vin 4, .op .lst [.scal (.var 5)]])])] [4, 5],
    .asg (.nm 1) (.mov 3)] [2, 3, 4, 5],
  .ret (.tall 2 (.mov 1))]⟩
def d17 : Def := ⟨"_law_orders", top 28, ["size", "found", "step", "longer", "row", "one"], ["size"], f17, ⟨[none], .om, [none]⟩, []⟩
/-- _law_shuffled(purse, things): 0 purse, 1 things, 2 thing, 3 left, 4 found -/
def f18 : Fn := ⟨2, 5, [
  .par [3, 4] [.op .listOf [.vin 1], .op .lst []],
  .forr (.nm 2) .list [.mov 1] [
    .ex (.app 4 (.scal (.popi 3 (.call 22 [.ref 0, .op .len [.vin 3]]))))] [2],
  .ret (.mov 4)]⟩
def d18 : Def := ⟨"_law_shuffled", top 29, ["purse", "things", "thing", "left", "found"], ["purse", "things"], f18, ⟨[some .om, none], .om, [some .om, none]⟩, []⟩
/-- _law_spoilt(told): 0 told, 1 found, 2 part -/
def f19 : Fn := ⟨1, 3, [
  .iff (.op (.isi "tuple") [.vin 0]) [
    .ret (.op .all [.comp (.nm 2) [2] .tup [.mov 0] [] (.call 19 [.mov 2])])] [],
  .iff (.not (.op (.isi "list") [.vin 0])) [
    .ret (.bl true)] [],
  .iff (.and (.op .ne [.vin 0, .op .lst []]) (.and (.op (.isi "str") [.op .ix [.vin 0, .op .neg [.int 1]]]) (.op .eq [.op .ix [.vin 0, .op .neg [.int 1]], .str "spoilt"]))) [
    .ret (.bl false)] [],
  .asg (.nm 1) (.compO (.nm 2) [2] 0 [] (.call 19 [.mov 2])),
  .ex (.appR 0 (.str "spoilt")),
  .ret (.op .all [.vin 1])]⟩
def d19 : Def := ⟨"_law_spoilt", top 30, ["told", "found", "part"], ["told"], f19, ⟨[some .om], .om, [none]⟩, []⟩
/-- _law_same(told, due): 0 told, 1 due, 2 alike, 3 one, 4 other -/
def f20 : Fn := ⟨2, 5, [
  .iff (.op .isN [.vin 1]) [
    .ret (.op .isN [.vin 0])] [],
  .iff (.op (.isB true) [.vin 1]) [
    .ret (.op (.isB true) [.vin 0])] [],
  .iff (.op (.isB false) [.vin 1]) [
    .ret (.op (.isB false) [.vin 0])] [],
  .iff (.op (.isi2 "list" "tuple") [.vin 1]) [
    .asg (.nm 2) (.ite (.op (.isi "list") [.vin 1]) (.op (.isi "list") [.vin 0]) (.op (.isi "tuple") [.vin 0])),
    .ret (.and (.scal (.var 2)) (.and (.op .eq [.op .len [.vin 0], .op .len [.vin 1]]) (.op .all [.comp (.tp [3, 4]) [3, 4] (.zip false) [.mov 0, .mov 1] [] (.call 20 [.mov 3, .mov 4])])))] [],
  .iff (.op (.isi "int") [.vin 1]) [
    .ret (.and (.op (.isi "int") [.vin 0]) (.and (.not (.op (.isi "bool") [.vin 0])) (.op .eq [.vin 0, .vin 1])))] [],
  .ret (.and (.op (.isi "str") [.vin 0]) (.op .eq [.vin 0, .vin 1]))]⟩
def d20 : Def := ⟨"_law_same", top 31, ["told", "due", "alike", "one", "other"], ["told", "due"], f20, ⟨[none, none], .om, [none, none]⟩, []⟩
/-- _law_purse(script): 0 script, 1 seed, 2 cell -/
def f21 : Fn := ⟨1, 3, [
  .asg (.nm 1) (.int 7),
  .forr (.nm 2) .list [.op (.sl false true) [.vin 0, .int 63]] [
    .asg (.nm 1) (.op .mod [.op .toInt [.op .add [.op .mul [.vin 1, .int 31], .vin 2]], .int 2147483647])] [2],
  .ret (.op .lst [.comp (.nm 2) [2] .list [.op (.sl false true) [.mov 0, .int 63]] [.op .ge [.vin 2, .op .pow [.int 10, .int 18]]] (.scal (.var 2)), .int 0, .int 0, .int 0, .scal (.var 1)])]⟩
def d21 : Def := ⟨"_law_purse", top 32, ["script", "seed", "cell"], ["script"], f21, ⟨[none], .om, [none]⟩, []⟩
/-- _law_draw(purse, many): 0 purse, 1 many, 2 stirred, 3 told -/
def f22 : Fn := ⟨2, 4, [
  .iff (.and (.op .lt [.op .ix [.vin 0, .int 2], .vin 1]) (.op .lt [.op .ix [.vin 0, .int 1], .op .len [.op .ix [.vin 0, .int 0]]])) [
    .sub 0 (.int 2) (.scal (.op .ix [.op .ix [.vin 0, .int 0], .op .ix [.vin 0, .int 1]])),
    .augs 0 (.int 1) .add (.int 1)] [],
  .iff (.op .ge [.op .ix [.vin 0, .int 2], .vin 1]) [
    .asg (.nm 3) (.op .mod [.op .toInt [.op .ix [.vin 0, .int 2]], .vin 1]),
    .sub 0 (.int 2) (.op .fdiv [.op .ix [.vin 0, .int 2], .vin 1]),
    .ret (.scal (.var 3))] [],
  .augs 0 (.int 3) .add (.int 1),
  .asg (.nm 2) (.op .mod [.op .toInt [.op .mul [.op .add [.op .mul [.op .ix [.vin 0, .int 3], .op .ix [.vin 0, .int 3]], .op .ix [.vin 0, .int 4]], .int 48271]], .int 2147483629]),
  .ret (.op .mod [.op .toInt [.op .mod [.op .toInt [.op .mul [.vin 2, .vin 2]], .int 2147483587]], .vin 1])]⟩
def d22 : Def := ⟨"_law_draw", top 33, ["purse", "many", "stirred", "told"], ["purse", "many"], f22, ⟨[some .om, none], .om, [some .om, none]⟩, []⟩
/-- law(script): 0 script, 1 purse, 2 turn, 3 told, 4 order, 5 pattern, 6 kept, 7 due, 8 size, 9 rows, 10 found, 11 one -/
def f23 : Fn := ⟨1, 12, [
  .asg (.nm 1) (.call 21 [.mov 0]),
  .forr (.nm 2) .r1 [.int 9] [
    .asg (.tp [4, 5]) (.op .tup [.call 14 [.ref 1, .op .add [.int 1, .call 22 [.ref 1, .int 7]]], .call 14 [.ref 1, .op .add [.int 1, .call 22 [.ref 1, .int 4]]]]),
    .iff (.op .eq [.vin 2, .int 0]) [
      .asg (.tp [4, 5]) (.op .tup [.op .lst [.int 0], .op .lst [.int 1, .int 0]])] [],
    .par [6, 7] [.op .repr [.op .lst [.var 4, .var 5]], .call 13 [.var 4, .var 5]],
    .asg (.nm 3) (.call 11 [.var 4, .var 5]),
    .iff (.or (.not (.call 20 [.op .lst [.var 3, .callk 11 [.var 5, .var 4] [1, 0]], .op .lst [.var 7, .mov 7]])) (.or (.not (.call 19 [.op .lst [.mov 3]])) (.op .ne [.op .repr [.op .lst [.mov 4, .var 5]], .vin 6]))) [
      .ret (.bl false)] [],
    .iff (.op .lt [.vin 2, .int 2]) [
      .asg (.nm 8) (.op .add [.int 1, .call 22 [.ref 1, .int 5]]),
      .asg (.nm 9) (.comp (.nm 11) [11] .list [.call 17 [.scal (.var 8)]] [.and (.op .eq [.op .ix [.vin 11, .int 0], .int 0]) (.op .isN [.call 13 [.var 11, .var 5]])] (.mov 11)),
      .asg (.nm 10) (.call 12 [.scal (.var 8), .var 5]),
      .iff (.or (.not (.call 20 [.op .lst [.var 10, .callk 12 [.mov 5, .scal (.var 8)] [1, 0]], .op .lst [.var 9, .mov 9]])) (.not (.call 19 [.mov 10]))) [
        .ret (.bl false)] []] []] [2, 3, 4, 5, 6, 7, 8, 9, 10, 11],
  .ret (.call 20 [.op .lst [.op .len [.call 12 [.int 5, .op .lst [.int 0, .int 2, .int 1, .int 3]]], .call 12 [.int 2, .op .lst [.int 0]], .call 12 [.int 3, .op .lst [.int 0, .int 1, .int 2, .int 3]]], .op .lst [.int 13, .op .lst [], .op .lst [.op .lst [.int 0, .int 1, .int 2], .op .lst [.int 0, .int 2, .int 1]]]])]⟩
def d23 : Def := ⟨"law", top 34, ["script", "purse", "turn", "told", "order", "pattern", "kept", "due", "size", "rows", "found", "one"], ["script"], f23, ⟨[none], .om, [none]⟩, []⟩
def ds : List Def := [d0, d1, d2, d3, d4, d5, d6, d7, d8, d9, d10, d11, d12, d13, d14, d15, d16, d17, d18, d19, d20, d21, d22, d23]
end OH

namespace PL
open PySem OH
/-! ### slots -/
theorem oD0 {α : Type} {a : Option α} {l : List (Option α)} : oD (a :: l) 0 = a := by cases a <;> rfl
theorem oDs {α : Type} {a : Option α} {l : List (Option α)} {n : Nat} : oD (a :: l) (n + 1) = oD l n := rfl
theorem st0 {α : Type} {a b : α} {l : List α} : (a :: l).set 0 b = b :: l := rfl
theorem sts {α : Type} {a b : α} {l : List α} {n : Nat} : (a :: l).set (n + 1) b = a :: l.set n b := rfl
theorem wipe0 {ρ : REnv} : wipeD ρ [] = ρ := rfl
theorem wipes {ρ : REnv} {i : Nat} {is : List Nat} : wipeD ρ (i :: is) = wipeD (ρ.set i none) is := rfl
/-! ### calls -/
def finO (ps : Nat) : Option Out → Option (D × List D)
  | some (.rt d ρ) => some (d, (List.range ps).map fun j => (getD ρ j).getD .non)
  | some (.nx ρ) => some (.non, (List.range ps).map fun j => (getD ρ j).getD .non)
  | none => none
theorem call_fin {P : Prg} {k f : Nat} {F : Fn} {ds : List D} (h : P f = some F) (hl : ds.length = F.ps) : callD P (k + 1) f ds = finO F.ps (evSs (callD P k) F.body (startD F.n ds)) := by
  conv => lhs; unfold callD
  rw [h]
  simp only [Option.bind_some, if_pos hl]
  cases evSs (callD P k) F.body (startD F.n ds) with
  | none => rfl
  | some o => cases o <;> rfl
/-! ### loops -/
def wipeO (kill : List Nat) : Option Out → Option Out
  | some (.nx ρ) => some (.nx (wipeD ρ kill))
  | o => o
theorem wipeO_nx {kill : List Nat} {ρ : REnv} : wipeO kill (some (.nx ρ)) = some (.nx (wipeD ρ kill)) := rfl
theorem wipeO_rt {kill : List Nat} {d : D} {ρ : REnv} : wipeO kill (some (.rt d ρ)) = some (.rt d ρ) := rfl
theorem forD_cons {b : D → REnv → Option Out} {kill : List Nat} {d : D} {ds : List D} {ρ : REnv} : forD b kill (d :: ds) ρ = (match wipeO kill (b d (wipeD ρ kill)) with
    | some (.nx ρ2) => forD b kill ds ρ2
    | o => o) := by
  have idem : ∀ (l : List Nat) (i : Nat) (ρ : REnv), wipeD (ρ.set i none) l = (wipeD ρ l).set i none := by
    intro l
    induction l with
    | nil => intro i ρ; rfl
    | cons j l ih =>
      intro i ρ
      show wipeD ((ρ.set i none).set j none) l = (wipeD (ρ.set j none) l).set i none
      by_cases e : i = j
      · subst e; rw [List.set_set, ← ih, List.set_set]
      · rw [List.set_comm _ _ e, ih]
  have idem2 : ∀ (l : List Nat) (ρ : REnv), wipeD (wipeD ρ l) l = wipeD ρ l := by
    intro l
    induction l with
    | nil => intro ρ; rfl
    | cons j l ih =>
      intro ρ
      show wipeD ((wipeD (ρ.set j none) l).set j none) l = wipeD (ρ.set j none) l
      rw [idem, ih, ← idem, List.set_set]
  have same : ∀ (ds : List D) (ρ : REnv), forD b kill ds (wipeD ρ kill) = forD b kill ds ρ := by
    intro ds ρ
    cases ds with
    | nil => unfold forD; rw [idem2]
    | cons d ds => unfold forD; rw [idem2]
  show ((b d (wipeD ρ kill)).bind _) = _
  cases h : b d (wipeD ρ kill) with
  | none => rfl
  | some o =>
    cases o with
    | nx ρ2 => rw [wipeO_nx]; exact (same ds ρ2).symm
    | rt d ρ2 => rfl
/-- a loop that goes to its end -/
theorem forD_fold {σ α : Type} (enc : σ → REnv) (step : σ → α → σ) {toD : α → D} {b : D → REnv → Option Out} {kill : List Nat} : ∀ {xs : List α} {ρ : REnv} {s : σ}, wipeD ρ kill = enc s →
    (∀ s, ∀ x ∈ xs, wipeO kill (b (toD x) (enc s)) = some (.nx (enc (step s x)))) → (∀ s, wipeD (enc s) kill = enc s) → forD b kill (xs.map toD) ρ = some (.nx (enc (xs.foldl step s)))
  | [], ρ, s, h0, _, _ => by show some (Out.nx (wipeD ρ kill)) = _; rw [h0]; rfl
  | x :: xs, ρ, s, h0, h, hw => by
    rw [List.map_cons, forD_cons, h0, h s x List.mem_cons_self]
    exact forD_fold enc step (hw _) (fun s y hy => h s y (List.mem_cons_of_mem _ hy)) hw
/-- .. with a property of the state -/
theorem forD_go {σ α : Type} (enc : σ → REnv) (step : σ → α → σ) (I : Nat → σ → Prop) {toD : α → D} {b : D → REnv → Option Out} {kill : List Nat} {xs : List α} {ρ : REnv} (s : σ) (h0 : wipeD ρ kill = enc s) (hI : I 0 s)
    (h : ∀ m s x, xs[m]? = some x → I m s → wipeO kill (b (toD x) (enc s)) = some (.nx (enc (step s x))) ∧ I (m + 1) (step s x)) (hw : ∀ s, wipeD (enc s) kill = enc s) :
    forD b kill (xs.map toD) ρ = some (.nx (enc (xs.foldl step s))) := by
  induction xs generalizing ρ s I with
  | nil => show some (Out.nx (wipeD ρ kill)) = _; rw [h0]; rfl
  | cons x xs ih =>
    obtain ⟨a, b⟩ := h 0 s x rfl hI
    rw [List.map_cons, forD_cons, h0, a]
    exact ih (fun m => I (m + 1)) (step s x) (hw _) b fun m s y hy => h (m + 1) s y hy
theorem foldl_inv {σ α : Type} (step : σ → α → σ) (I : Nat → σ → Prop) {xs : List α} {s : σ} (hI : I 0 s) (h : ∀ m s x, xs[m]? = some x → I m s → I (m + 1) (step s x)) : I xs.length (xs.foldl step s) := by
  induction xs generalizing s I with
  | nil => exact hI
  | cons x xs ih => exact ih (fun m => I (m + 1)) (h 0 s x rfl hI) fun m s y hy => h (m + 1) s y hy
/-- a loop that looks for something -/
theorem forD_find {α : Type} (p : α → Bool) (val : α → D) (env : α → REnv) {toD : α → D} {b : D → REnv → Option Out} {kill : List Nat} {ρ1 : REnv} : ∀ {xs : List α} {ρ : REnv}, wipeD ρ kill = ρ1 → wipeD ρ1 kill = ρ1 →
    (∀ x ∈ xs, wipeO kill (b (toD x) ρ1) = if p x = true then some (.rt (val x) (env x)) else some (.nx ρ1)) →
    forD b kill (xs.map toD) ρ = match xs.find? p with | some x => some (.rt (val x) (env x)) | none => some (.nx ρ1)
  | [], ρ, h0, _, _ => by show some (Out.nx (wipeD ρ kill)) = _; rw [h0]; rfl
  | x :: xs, ρ, h0, h1, h => by
    rw [List.map_cons, forD_cons, h0, h x List.mem_cons_self, List.find?_cons]
    cases hp : p x with
    | true => simp
    | false =>
      simp only [Bool.false_eq_true, if_false]
      exact forD_find p val env h1 h1 fun y hy => h y (List.mem_cons_of_mem _ hy)
/-! ### comprehensions -/
def wipeC (own : List Nat) : Option (Option D × REnv) → Option (Option D × REnv)
  | some (y, ρ) => some (y, wipeD ρ own)
  | none => none
theorem wipeC_some {own : List Nat} {y : Option D} {ρ : REnv} : wipeC own (some (y, ρ)) = some (y, wipeD ρ own) := rfl
theorem wipe_idem (l : List Nat) (ρ : REnv) : wipeD (wipeD ρ l) l = wipeD ρ l := by
  have idem : ∀ (l : List Nat) (i : Nat) (ρ : REnv), wipeD (ρ.set i none) l = (wipeD ρ l).set i none := by
    intro l
    induction l with
    | nil => intro i ρ; rfl
    | cons j l ih =>
      intro i ρ
      show wipeD ((ρ.set i none).set j none) l = (wipeD (ρ.set j none) l).set i none
      by_cases e : i = j
      · subst e; rw [List.set_set, ← ih, List.set_set]
      · rw [List.set_comm _ _ e, ih]
  induction l generalizing ρ with
  | nil => rfl
  | cons j l ih =>
    show wipeD ((wipeD (ρ.set j none) l).set j none) l = wipeD (ρ.set j none) l
    rw [idem, ih, ← idem, List.set_set]
theorem compD_wipe {b : D → REnv → Option (Option D × REnv)} {own : List Nat} {ds : List D} {ρ : REnv} {acc : List D} : compD b own ds (wipeD ρ own) acc = compD b own ds ρ acc := by
  cases ds <;> (unfold compD; rw [wipe_idem])
theorem compF_wipe {b : D → REnv → List D → Option (List D × REnv)} {own : List Nat} {ds : List D} {ρ : REnv} {acc : List D} : compF b own ds (wipeD ρ own) acc = compF b own ds ρ acc := by
  cases ds <;> (unfold compF; rw [wipe_idem])
/-- each item by itself -/
theorem compD_map {α : Type} (g : α → Option D) {toD : α → D} {b : D → REnv → Option (Option D × REnv)} {own : List Nat} {ρ1 : REnv} : ∀ {xs : List α} {ρ : REnv} {acc : List D}, wipeD ρ own = ρ1 →
    (∀ x ∈ xs, wipeC own (b (toD x) ρ1) = some (g x, ρ1)) → acc.length + xs.length ≤ LIM → compD b own (xs.map toD) ρ acc = some (acc ++ xs.filterMap g, ρ1)
  | [], ρ, acc, h0, _, _ => by show some (acc, wipeD ρ own) = _; rw [h0]; simp
  | x :: xs, ρ, acc, h0, h, hl => by
    have hx := h x List.mem_cons_self
    rw [List.map_cons]
    unfold compD
    rw [h0]
    cases e : b (toD x) ρ1 with
    | none => rw [e] at hx; cases hx
    | some p =>
      obtain ⟨y, ρ2⟩ := p
      rw [e, wipeC_some] at hx
      simp only [Option.some.injEq, Prod.mk.injEq] at hx
      obtain ⟨hy, hr⟩ := hx
      have l1 : acc.length + (xs.length + 1) ≤ LIM := hl
      have ih := fun acc' (hl' : acc'.length + xs.length ≤ LIM) => compD_map g (xs := xs) (ρ := ρ2) (acc := acc') hr (fun y hy => h y (List.mem_cons_of_mem _ hy)) hl'
      cases y with
      | none =>
        simp only [Option.bind_some]
        rw [ih acc (by omega), List.filterMap_cons, ← hy]
      | some y =>
        simp only [Option.bind_some]
        rw [if_pos (show acc.length < LIM by omega), ih (acc ++ [y]) (by rw [List.length_append, List.length_singleton]; omega), List.filterMap_cons, ← hy]
        simp
/-- a comprehension that gives one for each -/
theorem compD_all {α : Type} (g : α → D) {toD : α → D} {b : D → REnv → Option (Option D × REnv)} {own : List Nat} {ρ1 : REnv} {xs : List α} {ρ : REnv} {acc : List D} (h0 : wipeD ρ own = ρ1)
    (h : ∀ x ∈ xs, wipeC own (b (toD x) ρ1) = some (some (g x), ρ1)) (hl : acc.length + xs.length ≤ LIM) : compD b own (xs.map toD) ρ acc = some (acc ++ xs.map g, ρ1) := by
  rw [compD_map (fun x => some (g x)) h0 h hl, List.filterMap_eq_map']
/-- .. that keeps some -/
theorem compD_some {α : Type} (p : α → Bool) (g : α → D) {toD : α → D} {b : D → REnv → Option (Option D × REnv)} {own : List Nat} {ρ1 : REnv} {xs : List α} {ρ : REnv} {acc : List D} (h0 : wipeD ρ own = ρ1)
    (h : ∀ x ∈ xs, wipeC own (b (toD x) ρ1) = some (if p x = true then some (g x) else none, ρ1)) (hl : acc.length + xs.length ≤ LIM) : compD b own (xs.map toD) ρ acc = some (acc ++ (xs.filter p).map g, ρ1) := by
  rw [compD_map (fun x => if p x = true then some (g x) else none) h0 h hl]
  congr 3
  clear h hl
  induction xs with
  | nil => rfl
  | cons x xs ih =>
    rw [List.filterMap_cons, List.filter_cons]
    by_cases c : p x = true
    · rw [if_pos c, if_pos c]; simp only; rw [ih, List.map_cons]
    · rw [if_neg c, if_neg c]; simp only; exact ih
def wipeF (own : List Nat) : Option (List D × REnv) → Option (List D × REnv)
  | some (y, ρ) => some (y, wipeD ρ own)
  | none => none
theorem wipeF_some {own : List Nat} {y : List D} {ρ : REnv} : wipeF own (some (y, ρ)) = some (y, wipeD ρ own) := rfl
theorem compF_map {α : Type} (g : α → List D) {toD : α → D} {b : D → REnv → List D → Option (List D × REnv)} {own : List Nat} {ρ1 : REnv} (M : Nat) : ∀ {xs : List α} {ρ : REnv} {acc : List D}, wipeD ρ own = ρ1 →
    (∀ x ∈ xs, (g x).length ≤ M) → (∀ x ∈ xs, ∀ acc : List D, acc.length + M ≤ LIM → wipeF own (b (toD x) ρ1 acc) = some (acc ++ g x, ρ1)) → acc.length + xs.length * M ≤ LIM → compF b own (xs.map toD) ρ acc = some (acc ++ xs.flatMap g, ρ1)
  | [], ρ, acc, h0, _, _, _ => by show some (acc, wipeD ρ own) = _; rw [h0]; simp
  | x :: xs, ρ, acc, h0, hM, h, hl => by
    have e1 : (xs.length + 1) * M = xs.length * M + M := Nat.succ_mul _ _
    have l1 : acc.length + (xs.length + 1) * M ≤ LIM := hl
    have hx := h x List.mem_cons_self acc (by omega)
    rw [List.map_cons]
    unfold compF
    rw [h0]
    cases e : b (toD x) ρ1 acc with
    | none => rw [e] at hx; cases hx
    | some p =>
      obtain ⟨y, ρ2⟩ := p
      rw [e, wipeF_some] at hx
      simp only [Option.some.injEq, Prod.mk.injEq] at hx
      obtain ⟨hy, hr⟩ := hx
      simp only [Option.bind_some]
      have m1 := hM x List.mem_cons_self
      rw [hy, compF_map g M (xs := xs) (ρ := ρ2) (acc := acc ++ g x) hr (fun y hy => hM y (List.mem_cons_of_mem _ hy)) (fun y hy => h y (List.mem_cons_of_mem _ hy)) (by rw [List.length_append]; omega), List.flatMap_cons, List.append_assoc]
/-! ### numbers and lists of numbers -/
abbrev dn (n : Nat) : D := .int (n : Int)
abbrev dl (xs : List Nat) : D := .lst (xs.map dn)
abbrev dll (xss : List (List Nat)) : D := .lst (xss.map dl)
theorem flatL_map {α : Type} {f : α → D} : ∀ {xs : List α}, (∀ x ∈ xs, D.flat (f x) = true) → D.flatL (xs.map f) = true
  | [], _ => rfl
  | x :: xs, h => by
    simp only [List.map_cons, D.flatL, h x List.mem_cons_self, Bool.true_and]
    exact flatL_map fun y hy => h y (List.mem_cons_of_mem _ hy)
theorem txtL_map {α : Type} {f : α → D} : ∀ {xs : List α}, (∀ x ∈ xs, D.txt (f x) = true) → D.txtL (xs.map f) = true
  | [], _ => rfl
  | x :: xs, h => by
    simp only [List.map_cons, D.txtL, h x List.mem_cons_self, Bool.true_and]
    exact txtL_map fun y hy => h y (List.mem_cons_of_mem _ hy)
theorem heightL_map {α : Type} {f : α → D} {m : Nat} : ∀ {xs : List α}, (∀ x ∈ xs, D.height (f x) ≤ m) → D.heightL (xs.map f) ≤ m
  | [], _ => Nat.zero_le _
  | x :: xs, h => by
    simp only [List.map_cons, D.heightL]
    exact Nat.max_le.mpr ⟨h x List.mem_cons_self, heightL_map fun y hy => h y (List.mem_cons_of_mem _ hy)⟩
theorem eqvL_map {α : Type} {f : α → D} : ∀ {xs ys : List α}, (∀ x y, D.eqv (f x) (f y) = true ↔ x = y) → (D.eqvL (xs.map f) (ys.map f) = true ↔ xs = ys)
  | [], [], _ => by simp [D.eqvL]
  | [], _ :: _, _ => by simp [D.eqvL]
  | _ :: _, [], _ => by simp [D.eqvL]
  | x :: xs, y :: ys, h => by
    simp only [List.map_cons, D.eqvL, Bool.and_eq_true, List.cons.injEq]
    rw [h x y, eqvL_map h]
theorem dn_flat (n : Nat) : D.flat (dn n) = true := rfl
theorem dn_txt (n : Nat) : D.txt (dn n) = true := rfl
theorem dn_h (n : Nat) : D.height (dn n) = 0 := rfl
theorem dn_eqv (x y : Nat) : D.eqv (dn x) (dn y) = true ↔ x = y := by simp [D.eqv]; omega
theorem dl_flat (xs : List Nat) : D.flat (dl xs) = true := by
  unfold dl D.flat; exact flatL_map fun x _ => dn_flat x
theorem dl_txt (xs : List Nat) : D.txt (dl xs) = true := by
  unfold dl D.txt; exact txtL_map fun x _ => dn_txt x
theorem dl_h (xs : List Nat) : D.height (dl xs) ≤ 1 := by
  unfold dl D.height; exact Nat.succ_le_succ (heightL_map fun x _ => Nat.le_refl 0)
theorem dl_eqv (x y : List Nat) : D.eqv (dl x) (dl y) = true ↔ x = y := by
  unfold dl D.eqv; exact eqvL_map dn_eqv
theorem dll_flat (xs : List (List Nat)) : D.flat (dll xs) = true := by
  unfold dll D.flat; exact flatL_map fun x _ => dl_flat x
theorem dll_txt (xs : List (List Nat)) : D.txt (dll xs) = true := by
  unfold dll D.txt; exact txtL_map fun x _ => dl_txt x
theorem dll_h (xs : List (List Nat)) : D.height (dll xs) ≤ 2 := by
  unfold dll D.height; exact Nat.succ_le_succ (heightL_map fun x _ => dl_h x)
theorem dll_eqv (x y : List (List Nat)) : D.eqv (dll x) (dll y) = true ↔ x = y := by
  unfold dll D.eqv; exact eqvL_map dl_eqv
theorem eqOk_of {d : D} (a : D.flat d = true) (b : D.txt d = true) {m : Nat} (c : D.height d ≤ m) (h : m ≤ 60) : d.eqOk = true := by
  unfold D.eqOk; rw [a, b]; simp; omega
theorem dn_ok (n : Nat) : (dn n).eqOk = true := eqOk_of (dn_flat n) (dn_txt n) (Nat.le_of_eq (dn_h n)) (by omega)
theorem int_ok (n : Int) : (D.int n).eqOk = true := eqOk_of rfl rfl (m := 0) (Nat.le_refl _) (by omega)
theorem dl_ok (xs : List Nat) : (dl xs).eqOk = true := eqOk_of (dl_flat xs) (dl_txt xs) (dl_h xs) (by omega)
theorem dll_ok (xs : List (List Nat)) : (dll xs).eqOk = true := eqOk_of (dll_flat xs) (dll_txt xs) (dll_h xs) (by omega)
theorem dec_of {p : Prop} [Decidable p] {b : Bool} (h : b = true ↔ p) : b = decide p := by
  cases b with
  | true => exact (decide_eq_true (h.mp rfl)).symm
  | false => exact (decide_eq_false fun q => by have := h.mpr q; cases this).symm
end PL

namespace PL
open PySem OH
/-! ### results alone -/
def valC (cl : Calls) (f : Nat) (ds : List D) : Option D := (cl f ds).map (·.1)
def valO : Option Out → Option D
  | some (.rt d _) => some d
  | some (.nx _) => some .non
  | none => none
theorem valO_rt {d : D} {ρ : REnv} : valO (some (.rt d ρ)) = some d := rfl
theorem valO_nx {ρ : REnv} : valO (some (.nx ρ)) = some .non := rfl
theorem call_val {P : Prg} {k f : Nat} {F : Fn} {ds : List D} (h : P f = some F) (hl : ds.length = F.ps) : valC (callD P (k + 1)) f ds = valO (evSs (callD P k) F.body (startD F.n ds)) := by
  unfold valC
  rw [call_fin h hl]
  cases evSs (callD P k) F.body (startD F.n ds) with
  | none => rfl
  | some o => cases o <;> rfl
/-! ### choices -/
def condD {α : Type} (d : D) (x y : Option α) : Option α := match d with
  | .bl true => x
  | .bl false => y
  | _ => none
theorem cond_bl {α : Type} {b : Bool} {x y : Option α} : condD (.bl b) x y = if b = true then x else y := by cases b <;> rfl
theorem cond_t {α : Type} {x y : Option α} : condD (.bl true) x y = x := rfl
theorem cond_f {α : Type} {x y : Option α} : condD (.bl false) x y = y := rfl
def notD : D → Option D
  | .bl b => some (.bl (!b))
  | _ => none
theorem not_bl {b : Bool} : notD (.bl b) = some (.bl (!b)) := rfl
def tstD : D → Option Bool
  | .bl b => some b
  | _ => none
theorem tst_bl {b : Bool} : tstD (.bl b) = some b := rfl
def scalD : D → Option D
  | .lst _ => none
  | .tup _ => none
  | .dct => none
  | .fzl _ => none
  | .rawl _ => none
  | .oth => none
  | d => some d
theorem scal_int {i : Int} : scalD (.int i) = some (.int i) := rfl
theorem scal_bl {b : Bool} : scalD (.bl b) = some (.bl b) := rfl
theorem scal_str {s : Str} : scalD (.str s) = some (.str s) := rfl
theorem scal_non : scalD .non = some .non := rfl
def tallD (m : Nat) (d : D) : Option D := if D.flat d && decide (D.height d ≤ m) then some d else none
section
variable {cl : Calls} {ρ : REnv}
theorem ev_var {i : Nat} : ev cl (.var i) ρ = (oD ρ i).map (·, ρ) := rfl
theorem ev_vin {i : Nat} : ev cl (.vin i) ρ = (oD ρ i).map (·, ρ) := rfl
theorem ev_mov {i : Nat} : ev cl (.mov i) ρ = (oD ρ i).map (·, ρ) := rfl
theorem ev_ref {i : Nat} : ev cl (.ref i) ρ = (oD ρ i).map (·, ρ) := rfl
theorem ev_int {n : Int} : ev cl (.int n) ρ = some (.int n, ρ) := rfl
theorem ev_bl {b : Bool} : ev cl (.bl b) ρ = some (.bl b, ρ) := rfl
theorem ev_non : ev cl .non ρ = some (.non, ρ) := rfl
theorem ev_str {s : Str} : ev cl (.str s) ρ = some (.str s, ρ) := rfl
theorem ev_gint {x : Str} {n : Int} : ev cl (.gint x n) ρ = some (.int n, ρ) := rfl
theorem ev_op {o : Op} {es : List E} : ev cl (.op o es) ρ = (evs cl es ρ).bind fun p => (opD o p.1).map (·, p.2) := rfl
theorem evs_nil : evs cl [] ρ = some ([], ρ) := rfl
theorem evs_cons {e : E} {es : List E} : evs cl (e :: es) ρ = (ev cl e ρ).bind fun p => (evs cl es p.2).map fun q => (p.1 :: q.1, q.2) := rfl
theorem ev_and {a b : E} : ev cl (.and a b) ρ = (ev cl a ρ).bind fun p => condD p.1 (ev cl b p.2) (some (.bl false, p.2)) := by
  show ((ev cl a ρ).bind _) = _
  cases ev cl a ρ with
  | none => rfl
  | some p => obtain ⟨d, r⟩ := p; cases d <;> first | rfl | (rename_i b; cases b <;> rfl)
theorem ev_or {a b : E} : ev cl (.or a b) ρ = (ev cl a ρ).bind fun p => condD p.1 (some (.bl true, p.2)) (ev cl b p.2) := by
  show ((ev cl a ρ).bind _) = _
  cases ev cl a ρ with
  | none => rfl
  | some p => obtain ⟨d, r⟩ := p; cases d <;> first | rfl | (rename_i b; cases b <;> rfl)
theorem ev_not {a : E} : ev cl (.not a) ρ = (ev cl a ρ).bind fun p => (notD p.1).map (·, p.2) := by
  show ((ev cl a ρ).bind _) = _
  cases ev cl a ρ with
  | none => rfl
  | some p => obtain ⟨d, r⟩ := p; cases d <;> rfl
theorem ev_ite {c a b : E} : ev cl (.ite c a b) ρ = (ev cl c ρ).bind fun p => condD p.1 (ev cl a p.2) (ev cl b p.2) := by
  show ((ev cl c ρ).bind _) = _
  cases ev cl c ρ with
  | none => rfl
  | some p => obtain ⟨d, r⟩ := p; cases d <;> first | rfl | (rename_i b; cases b <;> rfl)
theorem ev_scal {e : E} : ev cl (.scal e) ρ = (ev cl e ρ).bind fun p => (scalD p.1).map (·, p.2) := by
  show ((ev cl e ρ).bind _) = _
  cases ev cl e ρ with
  | none => rfl
  | some p => obtain ⟨d, r⟩ := p; cases d <;> rfl
theorem ev_tall {m : Nat} {e : E} : ev cl (.tall m e) ρ = (ev cl e ρ).bind fun p => (tallD m p.1).map (·, p.2) := by
  show ((ev cl e ρ).bind _) = _
  cases ev cl e ρ with
  | none => rfl
  | some p =>
    obtain ⟨d, r⟩ := p
    simp only [Option.bind_some, tallD]
    split <;> rfl
theorem ev_chn {a b c : E} {o1 o2 : Op} : ev cl (.chn a o1 b o2 c) ρ = (ev cl a ρ).bind fun p => (ev cl b p.2).bind fun q => (opD o1 [p.1, q.1]).bind fun z => condD z ((ev cl c q.2).bind fun r => (opD o2 [q.1, r.1]).map (·, r.2)) (some (.bl false, q.2)) := by
  show ((ev cl a ρ).bind _) = _
  cases ev cl a ρ with
  | none => rfl
  | some p =>
    simp only [Option.bind_some]
    cases ev cl b p.2 with
    | none => rfl
    | some q =>
      simp only [Option.bind_some]
      cases opD o1 [p.1, q.1] with
      | none => rfl
      | some z => cases z <;> first | rfl | (rename_i b; cases b <;> rfl)
theorem isRef_var (i : Nat) : isRef (.var i) = none := rfl
theorem isRef_vin (i : Nat) : isRef (.vin i) = none := rfl
theorem isRef_mov (i : Nat) : isRef (.mov i) = none := rfl
theorem isRef_int (i : Int) : isRef (.int i) = none := rfl
theorem isRef_bl (i : Bool) : isRef (.bl i) = none := rfl
theorem isRef_str (i : Str) : isRef (.str i) = none := rfl
theorem isRef_pop (i : Nat) : isRef (.pop i) = none := rfl
theorem isRef_not (i : E) : isRef (.not i) = none := rfl
theorem isRef_scal (i : E) : isRef (.scal i) = none := rfl
theorem isRef_non : isRef .non = none := rfl
theorem isRef_op (o : Op) (es : List E) : isRef (.op o es) = none := rfl
theorem isRef_gint (x : Str) (n : Int) : isRef (.gint x n) = none := rfl
theorem isRef_and (a b : E) : isRef (.and a b) = none := rfl
theorem isRef_or (a b : E) : isRef (.or a b) = none := rfl
theorem isRef_ite (a b c : E) : isRef (.ite a b c) = none := rfl
theorem isRef_call (f : Nat) (es : List E) : isRef (.call f es) = none := rfl
theorem isRef_callk (f : Nat) (es : List E) (ks : List Nat) : isRef (.callk f es ks) = none := rfl
theorem isRef_app (i : Nat) (e : E) : isRef (.app i e) = none := rfl
theorem isRef_popi (i : Nat) (e : E) : isRef (.popi i e) = none := rfl
theorem isRef_comp (t : Tg) (own : List Nat) (k : ItK) (es cs : List E) (e : E) : isRef (.comp t own k es cs e) = none := rfl
theorem isRef_comp2 (t : Tg) (own : List Nat) (k : ItK) (es cs : List E) (t2 : Tg) (own2 : List Nat) (k2 : ItK) (es2 cs2 : List E) (e : E) : isRef (.comp2 t own k es cs t2 own2 k2 es2 cs2 e) = none := rfl
theorem isRef_tall (m : Nat) (e : E) : isRef (.tall m e) = none := rfl
theorem isRef_chn (a : E) (o1 : Op) (b : E) (o2 : Op) (c : E) : isRef (.chn a o1 b o2 c) = none := rfl
theorem isRef_ref (i : Nat) : isRef (.ref i) = some i := rfl
def noRef : List E → Bool
  | [] => true
  | e :: es => (isRef e).isNone && noRef es
theorem eva_evs : ∀ {es : List E} {ρ : REnv} {α : Type} (f : List D → REnv → Option α), noRef es = true → ((eva cl es ρ).bind fun p => (fillD es p.1 p.2).bind fun ds => f ds p.2) = (evs cl es ρ).bind fun p => f p.1 p.2
  | [], ρ, α, f, _ => rfl
  | e :: es, ρ, α, f, h => by
    simp only [noRef, Bool.and_eq_true, Option.isNone_iff_eq_none] at h
    have ih := fun (ρ : REnv) (g : List D → REnv → Option α) => eva_evs (es := es) (ρ := ρ) g h.2
    simp only [eva, h.1, evs]
    cases ev cl e ρ with
    | none => rfl
    | some p =>
      simp only [Option.bind_some]
      have q := ih p.2 (fun ds ρ => f (p.1 :: ds) ρ)
      cases hev : eva cl es p.2 with
      | none =>
        rw [hev] at q
        simp only [Option.bind_none] at q
        cases hes : evs cl es p.2 with
        | none => rfl
        | some z => rw [hes] at q; simpa using q
      | some w =>
        rw [hev] at q
        simp only [Option.map_some, Option.bind_some, fillD, h.1] at q ⊢
        cases hes : evs cl es p.2 with
        | none =>
          rw [hes] at q
          cases hf : fillD es w.1 w.2 with
          | none => rw [hf] at q; simp
          | some z => rw [hf] at q; simpa using q
        | some z =>
          rw [hes] at q
          cases hf : fillD es w.1 w.2 with
          | none => rw [hf] at q; simpa using q
          | some z2 => rw [hf] at q; simpa using q
theorem backD_none : ∀ {es : List E} {ds : List D} {ρ : REnv}, noRef es = true → backD es ds ρ = ρ
  | [], ds, ρ, _ => by cases ds <;> rfl
  | e :: es, [], ρ, _ => by cases e <;> rfl
  | e :: es, d :: ds, ρ, h => by
    simp only [noRef, Bool.and_eq_true, Option.isNone_iff_eq_none] at h
    have ih := backD_none (es := es) (ds := ds) (ρ := ρ) h.2
    cases e <;> first | exact ih | (have := h.1; simp [isRef] at this)
/-- a call without names handed in: its value -/
theorem ev_call {f : Nat} {es : List E} (h : noRef es = true) : ev cl (.call f es) ρ = (evs cl es ρ).bind fun p => (valC cl f p.1).map (·, p.2) := by
  show ((eva cl es ρ).bind fun p => (fillD es p.1 p.2).bind fun ds => (cl f ds).map fun q => (q.1, backD es q.2 p.2)) = _
  rw [eva_evs (fun ds ρ1 => (cl f ds).map fun q => (q.1, backD es q.2 ρ1)) h]
  congr 1
  funext p
  unfold valC
  rw [Option.map_map]
  congr 1
  funext q
  simp only [Function.comp_apply, backD_none h]
theorem ev_callr {f : Nat} {es : List E} : ev cl (.call f es) ρ = (eva cl es ρ).bind fun p => (fillD es p.1 p.2).bind fun ds => (cl f ds).map fun q => (q.1, backD es q.2 p.2) := rfl
theorem ev_callk {f : Nat} {es : List E} {ks : List Nat} : ev cl (.callk f es ks) ρ = (evs cl es ρ).bind fun p => (valC cl f (arrange p.1 ks)).map (·, p.2) := by
  show ((evs cl es ρ).bind fun p => (cl f (arrange p.1 ks)).map fun q => (q.1, p.2)) = _
  congr 1
  funext p
  unfold valC
  rw [Option.map_map]; rfl
def appD (x : Option D) (d : D) : Option D := match x with
  | some (.lst xs) => if xs.length < LIM then some (.lst (xs ++ [d])) else none
  | _ => none
theorem ev_app {i : Nat} {e : E} : ev cl (.app i e) ρ = if isL (oD ρ i) then (ev cl e ρ).bind fun p => (appD (oD p.2 i) p.1).map fun l => (.non, p.2.set i (some l)) else none := by
  show (if isL (getD ρ i) then _ else none) = _
  split
  · congr 1
    funext p
    simp only [getD]
    cases oD p.2 i with
    | none => rfl
    | some d =>
      cases d <;> try rfl
      simp only [appD]
      split <;> rfl
  · rfl
def appR (x : Option D) : Option D := match x with
  | some (.rawl n) => if n < LIM then some (.rawl (n + 1)) else none
  | _ => none
theorem ev_appR {i : Nat} {e : E} : ev cl (.appR i e) ρ = if isR (oD ρ i) then (ev cl e ρ).bind fun p => (appR (oD p.2 i)).map fun l => (.non, p.2.set i (some l)) else none := by
  show (if isR (getD ρ i) then _ else none) = _
  split
  · congr 1
    funext p
    simp only [getD]
    cases oD p.2 i with
    | none => rfl
    | some d =>
      cases d <;> try rfl
      simp only [appR]
      split <;> rfl
  · rfl
def popD (x : Option D) : Option (D × D) := match x with
  | some (.lst xs) => (xs[xs.length - 1]?).map fun d => (d, .lst xs.dropLast)
  | _ => none
theorem ev_pop {i : Nat} : ev cl (.pop i) ρ = (popD (oD ρ i)).map fun q => (q.1, ρ.set i (some q.2)) := by
  show (match getD ρ i with | some (.lst xs) => _ | _ => none) = _
  simp only [getD]
  cases oD ρ i with
  | none => rfl
  | some d =>
    cases d <;> try rfl
    simp only [popD, Option.map_map]
    rfl
def popiD (x : Option D) (k : D) : Option (D × D) := match x, k with
  | some (.lst xs), .int j => if 0 ≤ j ∧ j < 2 ^ 63 then (xs[j.toNat]?).map fun d => (d, .lst (xs.eraseIdx j.toNat)) else none
  | _, _ => none
theorem ev_popi {i : Nat} {e : E} : ev cl (.popi i e) ρ = if isL (oD ρ i) then (ev cl e ρ).bind fun p => (popiD (oD p.2 i) p.1).map fun q => (q.1, p.2.set i (some q.2)) else none := by
  show (if isL (getD ρ i) then _ else none) = _
  split
  · congr 1
    funext p
    simp only [getD]
    cases oD p.2 i with
    | none => cases p.1 <;> rfl
    | some d =>
      cases d <;> try rfl
      cases p.1 <;> try rfl
      simp only [popiD]
      split <;> first | (simp only [Option.map_map]; rfl) | rfl
  · rfl
/-! ### comprehensions -/
def clauseB (cl : Calls) (t : Tg) (cs : List E) (e : E) : D → REnv → Option (Option D × REnv) := fun d r => (bindT t d r).bind fun r1 => (evc cl cs r1).bind fun p => if p.1 then (ev cl e p.2).map fun q => (some q.1, q.2) else some (none, p.2)
theorem ev_comp {t : Tg} {own : List Nat} {k : ItK} {es cs : List E} {e : E} : ev cl (.comp t own k es cs e) ρ = (evs cl es ρ).bind fun p => (itD k p.1).bind fun items => (compD (clauseB cl t cs e) own items p.2 []).map fun q => (.lst q.1, q.2) := rfl
def clauseF (cl : Calls) (t : Tg) (cs : List E) (t2 : Tg) (own2 : List Nat) (k2 : ItK) (es2 cs2 : List E) (e : E) : D → REnv → List D → Option (List D × REnv) := fun d r acc => (bindT t d r).bind fun r1 => (evc cl cs r1).bind fun p => if p.1 then
  (evs cl es2 p.2).bind fun q => (itD k2 q.1).bind fun items2 => compD (clauseB cl t2 cs2 e) own2 items2 q.2 acc else some (acc, p.2)
theorem ev_comp2 {t t2 : Tg} {own own2 : List Nat} {k k2 : ItK} {es cs es2 cs2 : List E} {e : E} : ev cl (.comp2 t own k es cs t2 own2 k2 es2 cs2 e) ρ = (evs cl es ρ).bind fun p => (itD k p.1).bind fun items => (compF (clauseF cl t cs t2 own2 k2 es2 cs2 e) own items p.2 []).map fun q => (.lst q.1, q.2) := rfl
theorem ev_compO {t : Tg} {own : List Nat} {i : Nat} {cs : List E} {e : E} {xs : List D} (h : oD ρ i = some (.lst xs)) : ev cl (.compO t own i cs e) ρ = (compD (clauseB cl t cs e) own xs (ρ.set i (some (.rawl xs.length))) []).map fun q => (.lst q.1, q.2) := by
  show (match getD ρ i with | some (.lst xs) => _ | _ => none) = _
  simp only [getD, h]
  rfl
theorem evc_nil : evc cl [] ρ = some (true, ρ) := rfl
theorem evc_one {e : E} : evc cl [e] ρ = (ev cl e ρ).bind fun p => (tstD p.1).map (·, p.2) := by
  show ((ev cl e ρ).bind _) = _
  cases ev cl e ρ with
  | none => rfl
  | some p => obtain ⟨d, r⟩ := p; cases d <;> rfl
theorem bind_nm {i : Nat} {d : D} : bindT (.nm i) d ρ = some (ρ.set i (some d)) := rfl
theorem bind_tp2 {i j : Nat} {a b : D} : bindT (.tp [i, j]) (.tup [a, b]) ρ = some ((ρ.set i (some a)).set j (some b)) := rfl
theorem bind_tl2 {i j : Nat} {a b : D} : bindT (.tp [i, j]) (.lst [a, b]) ρ = some ((ρ.set i (some a)).set j (some b)) := rfl
theorem bind_tp3 {i j k : Nat} {a b c : D} : bindT (.tp [i, j, k]) (.tup [a, b, c]) ρ = some (((ρ.set i (some a)).set j (some b)).set k (some c)) := rfl
theorem bind_tp4 {i j k l : Nat} {a b c d : D} : bindT (.tp [i, j, k, l]) (.tup [a, b, c, d]) ρ = some ((((ρ.set i (some a)).set j (some b)).set k (some c)).set l (some d)) := rfl
/-! ### statements -/
def contO : Out → (REnv → Option Out) → Option Out
  | .nx ρ, f => f ρ
  | .rt d ρ, _ => some (.rt d ρ)
theorem cont_nx {ρ : REnv} {f : REnv → Option Out} : contO (.nx ρ) f = f ρ := rfl
theorem cont_rt {d : D} {ρ : REnv} {f : REnv → Option Out} : contO (.rt d ρ) f = some (.rt d ρ) := rfl
theorem evSs_nil : evSs cl [] ρ = some (.nx ρ) := rfl
theorem evSs_cons {s : S} {ss : List S} : evSs cl (s :: ss) ρ = (evS cl s ρ).bind fun o => contO o fun r => evSs cl ss r := by
  show ((evS cl s ρ).bind _) = _
  cases evS cl s ρ with
  | none => rfl
  | some o => cases o <;> rfl
theorem evS_asg {t : Tg} {e : E} : evS cl (.asg t e) ρ = (ev cl e ρ).bind fun p => (bindT t p.1 p.2).map .nx := rfl
theorem evS_par2 {i j : Nat} {a b : E} : evS cl (.par [i, j] [a, b]) ρ = (ev cl a ρ).bind fun p => (ev cl b p.2).map fun q => .nx ((q.2.set i (some p.1)).set j (some q.1)) := by
  show ((evs cl [a, b] ρ).bind _) = _
  simp only [evs]
  cases ev cl a ρ with
  | none => rfl
  | some p =>
    simp only [Option.bind_some]
    cases ev cl b p.2 with
    | none => rfl
    | some q => rfl
theorem evS_par3 {i j l : Nat} {a b c : E} : evS cl (.par [i, j, l] [a, b, c]) ρ = (ev cl a ρ).bind fun p => (ev cl b p.2).bind fun q => (ev cl c q.2).map fun r => .nx (((r.2.set i (some p.1)).set j (some q.1)).set l (some r.1)) := by
  show ((evs cl [a, b, c] ρ).bind _) = _
  simp only [evs]
  cases ev cl a ρ with
  | none => rfl
  | some p =>
    simp only [Option.bind_some]
    cases ev cl b p.2 with
    | none => rfl
    | some q =>
      simp only [Option.bind_some]
      cases ev cl c q.2 with
      | none => rfl
      | some r => rfl
def setD (x : Option D) (j d : D) : Option D := match x, j with
  | some (.lst xs), .int k => (ixN xs.length k).map fun n => .lst (xs.set n d)
  | _, _ => none
theorem setAt_eq {i : Nat} {j d : D} : setAt ρ i j d = (setD (oD ρ i) j d).map fun l => ρ.set i (some l) := by
  unfold setAt
  simp only [getD]
  cases oD ρ i with
  | none => cases j <;> rfl
  | some x =>
    cases x <;> try rfl
    cases j <;> try rfl
    simp only [setD, Option.map_map]; rfl
theorem evS_sub {i : Nat} {k e : E} : evS cl (.sub i k e) ρ = (ev cl e ρ).bind fun p => if isL (oD p.2 i) then (ev cl k p.2).bind fun q => (setAt q.2 i q.1 p.1).map .nx else none := rfl
theorem evS_sub2 {i i2 : Nat} {k k2 e e2 : E} : evS cl (.sub2 i k i2 k2 e e2) ρ = (ev cl e ρ).bind fun p => (ev cl e2 p.2).bind fun q => if isL (oD q.2 i) then (ev cl k q.2).bind fun r => (setAt r.2 i r.1 p.1).bind fun ρ4 => if isL (oD ρ4 i2) then (ev cl k2 ρ4).bind fun u => (setAt u.2 i2 u.1 q.1).map .nx else none else none := rfl
def augX (x : Option D) (j : D) : Option D := match x with
  | some (.lst l) => opD .ix [.lst l, j]
  | _ => none
theorem evS_augs {i : Nat} {k e : E} {o : Op} : evS cl (.augs i k o e) ρ = if isL (oD ρ i) then (ev cl k ρ).bind fun p => (augX (oD p.2 i) p.1).bind fun x => (ev cl e p.2).bind fun q => (augD o x q.1).bind fun z => (setAt q.2 i p.1 z).map .nx else none := by
  show (if isL (getD ρ i) then _ else none) = _
  split
  · congr 1
    funext p
    simp only [getD]
    cases oD p.2 i with
    | none => rfl
    | some d => cases d <;> rfl
  · rfl
theorem evS_ex {e : E} : evS cl (.ex e) ρ = (ev cl e ρ).map fun p => .nx p.2 := rfl
theorem evS_ret {e : E} : evS cl (.ret e) ρ = (ev cl e ρ).map fun p => .rt p.1 p.2 := rfl
theorem evS_retN : evS cl .retN ρ = some (.rt .non ρ) := rfl
theorem evS_iff {c : E} {a b : List S} : evS cl (.iff c a b) ρ = (ev cl c ρ).bind fun p => condD p.1 (evSs cl a p.2) (evSs cl b p.2) := by
  show ((ev cl c ρ).bind _) = _
  cases ev cl c ρ with
  | none => rfl
  | some p => obtain ⟨d, r⟩ := p; cases d <;> first | rfl | (rename_i b; cases b <;> rfl)
theorem evS_pass : evS cl .pass ρ = some (.nx ρ) := rfl
theorem evS_raise : evS cl .raise ρ = none := rfl
def turnB (cl : Calls) (t : Tg) (b : List S) : D → REnv → Option Out := fun d r => (bindT t d r).bind fun r1 => evSs cl b r1
theorem evS_for {t : Tg} {k : ItK} {es : List E} {b : List S} {kill : List Nat} : evS cl (.forr t k es b kill) ρ = (evs cl es ρ).bind fun p => (itD k p.1).bind fun items => forD (turnB cl t b) kill items p.2 := rfl
def whileT (cl : Calls) (c : E) : REnv → Option (Bool × REnv) := fun r => (ev cl c r).bind fun p => (tstD p.1).map (·, p.2)
theorem evS_whl {c : E} {b : List S} {kill : List Nat} : evS cl (.whl c b kill) ρ = whileD (whileT cl c) (fun r => evSs cl b r) kill WHL ρ := by
  show whileD _ _ kill WHL ρ = _
  congr 1
  funext r
  show ((ev cl c r).bind _) = _
  unfold whileT
  cases ev cl c r with
  | none => rfl
  | some p => obtain ⟨d, r⟩ := p; cases d <;> rfl
/-! ### calls with names handed in -/
theorem ev_callR {f : Nat} {es : List E} (h : noRef es = false) : ev cl (.call f es) ρ = (eva cl es ρ).bind fun p => (fillD es p.1 p.2).bind fun ds => (cl f ds).map fun q => (q.1, backD es q.2 p.2) := rfl
theorem eva_nil : eva cl [] ρ = some ([], ρ) := rfl
theorem eva_ref {i : Nat} {es : List E} : eva cl (.ref i :: es) ρ = (oD ρ i).bind fun _ => (eva cl es ρ).map fun q => (none :: q.1, q.2) := rfl
theorem eva_e {e : E} {es : List E} (h : isRef e = none) : eva cl (e :: es) ρ = (ev cl e ρ).bind fun p => (eva cl es p.2).map fun q => (some p.1 :: q.1, q.2) := by
  simp only [eva, h]
theorem fill_nil : fillD [] [] ρ = some [] := rfl
theorem fill_ref {i : Nat} {es : List E} {os : List (Option D)} : fillD (.ref i :: es) (none :: os) ρ = (oD ρ i).bind fun d => (fillD es os ρ).map (d :: ·) := rfl
theorem fill_e {e : E} {es : List E} {d : D} {os : List (Option D)} (h : isRef e = none) : fillD (e :: es) (some d :: os) ρ = (fillD es os ρ).map (d :: ·) := by
  simp only [fillD, h]
theorem back_nil {ds : List D} : backD [] ds ρ = ρ := by cases ds <;> rfl
theorem back_ref {i : Nat} {es : List E} {d : D} {ds : List D} : backD (.ref i :: es) (d :: ds) ρ = backD es ds (ρ.set i (some d)) := rfl
theorem back_e {e : E} {es : List E} {d : D} {ds : List D} (h : isRef e = none) : backD (e :: es) (d :: ds) ρ = backD es ds ρ := by
  cases e <;> first | rfl | (simp [isRef] at h)
end
theorem fin1 {d a : D} {ρ : REnv} : finO 1 (some (.rt d (some a :: ρ))) = some (d, [a]) := rfl
theorem fin2 {d a b : D} {ρ : REnv} : finO 2 (some (.rt d (some a :: some b :: ρ))) = some (d, [a, b]) := rfl
theorem fin3 {d a b c : D} {ρ : REnv} : finO 3 (some (.rt d (some a :: some b :: some c :: ρ))) = some (d, [a, b, c]) := rfl
/-- a loop by a property of the slots -/
theorem forD_all {b : D → REnv → Option Out} {kill : List Nat} (I : Nat → REnv → Prop) {ds : List D} {ρ : REnv} (h0 : I 0 (wipeD ρ kill)) (h : ∀ m d ρ, ds[m]? = some d → I m ρ → ∃ ρ', wipeO kill (b d ρ) = some (.nx ρ') ∧ I (m + 1) ρ') (hw : ∀ m ρ, I m ρ → wipeD ρ kill = ρ) :
    ∃ ρ', forD b kill ds ρ = some (.nx ρ') ∧ I ds.length ρ' := by
  induction ds generalizing ρ I with
  | nil => exact ⟨_, rfl, h0⟩
  | cons d ds ih =>
    obtain ⟨ρ', e, hI⟩ := h 0 d _ rfl h0
    rw [forD_cons, e]
    exact ih (fun m => I (m + 1)) (by rw [hw _ _ hI]; exact hI) (fun m d ρ hd hi => h (m + 1) d ρ hd hi) (fun m => hw (m + 1))
/-- .. that may end with a result -/
theorem forD_allR {b : D → REnv → Option Out} {kill : List Nat} (I : Nat → REnv → Prop) (R : D → REnv → Prop) {ds : List D} {ρ : REnv} (h0 : I 0 (wipeD ρ kill)) (h : ∀ m d ρ, ds[m]? = some d → I m ρ → (∃ ρ', wipeO kill (b d ρ) = some (.nx ρ') ∧ I (m + 1) ρ') ∨ ∃ v ρ', b d ρ = some (.rt v ρ') ∧ R v ρ') (hw : ∀ m ρ, I m ρ → wipeD ρ kill = ρ) :
    (∃ ρ', forD b kill ds ρ = some (.nx ρ') ∧ I ds.length ρ') ∨ ∃ v ρ', forD b kill ds ρ = some (.rt v ρ') ∧ R v ρ' := by
  induction ds generalizing ρ I with
  | nil => exact .inl ⟨_, rfl, h0⟩
  | cons d ds ih =>
    rcases h 0 d _ rfl h0 with ⟨ρ', e, hI⟩ | ⟨v, ρ', e, hR⟩
    · rw [forD_cons, e]
      exact ih (fun m => I (m + 1)) (by rw [hw _ _ hI]; exact hI) (fun m d ρ hd hi => h (m + 1) d ρ hd hi) (fun m => hw (m + 1))
    · refine .inr ⟨v, ρ', ?_, hR⟩
      rw [forD_cons, e]; rfl
end PL

namespace PL
open PySem OH
/-! ### literals as naturals -/
theorem l0 : (0 : Int) = ((0 : Nat) : Int) := rfl
theorem l1 : (1 : Int) = ((1 : Nat) : Int) := rfl
theorem l2 : (2 : Int) = ((2 : Nat) : Int) := rfl
theorem l3 : (3 : Int) = ((3 : Nat) : Int) := rfl
theorem l4 : (4 : Int) = ((4 : Nat) : Int) := rfl
theorem l5 : (5 : Int) = ((5 : Nat) : Int) := rfl
theorem l6 : (6 : Int) = ((6 : Nat) : Int) := rfl
theorem l7 : (7 : Int) = ((7 : Nat) : Int) := rfl
theorem l8 : (8 : Int) = ((8 : Nat) : Int) := rfl
theorem l9 : (9 : Int) = ((9 : Nat) : Int) := rfl
theorem l10 : (10 : Int) = ((10 : Nat) : Int) := rfl
theorem l11 : (11 : Int) = ((11 : Nat) : Int) := rfl
theorem l12 : (12 : Int) = ((12 : Nat) : Int) := rfl
theorem l13 : (13 : Int) = ((13 : Nat) : Int) := rfl
theorem l14 : (14 : Int) = ((14 : Nat) : Int) := rfl
theorem l15 : (15 : Int) = ((15 : Nat) : Int) := rfl
theorem l16 : (16 : Int) = ((16 : Nat) : Int) := rfl
theorem l17 : (17 : Int) = ((17 : Nat) : Int) := rfl
theorem l18 : (18 : Int) = ((18 : Nat) : Int) := rfl
theorem l19 : (19 : Int) = ((19 : Nat) : Int) := rfl
theorem l20 : (20 : Int) = ((20 : Nat) : Int) := rfl
theorem l21 : (21 : Int) = ((21 : Nat) : Int) := rfl
theorem l22 : (22 : Int) = ((22 : Nat) : Int) := rfl
theorem l23 : (23 : Int) = ((23 : Nat) : Int) := rfl
theorem l24 : (24 : Int) = ((24 : Nat) : Int) := rfl
theorem l25 : (25 : Int) = ((25 : Nat) : Int) := rfl
theorem l26 : (26 : Int) = ((26 : Nat) : Int) := rfl
theorem l27 : (27 : Int) = ((27 : Nat) : Int) := rfl
theorem l28 : (28 : Int) = ((28 : Nat) : Int) := rfl
theorem l29 : (29 : Int) = ((29 : Nat) : Int) := rfl
theorem l30 : (30 : Int) = ((30 : Nat) : Int) := rfl
theorem l31 : (31 : Int) = ((31 : Nat) : Int) := rfl
theorem l32 : (32 : Int) = ((32 : Nat) : Int) := rfl
theorem l33 : (33 : Int) = ((33 : Nat) : Int) := rfl
theorem l34 : (34 : Int) = ((34 : Nat) : Int) := rfl
theorem l35 : (35 : Int) = ((35 : Nat) : Int) := rfl
theorem l36 : (36 : Int) = ((36 : Nat) : Int) := rfl
theorem l37 : (37 : Int) = ((37 : Nat) : Int) := rfl
theorem l38 : (38 : Int) = ((38 : Nat) : Int) := rfl
theorem l39 : (39 : Int) = ((39 : Nat) : Int) := rfl
theorem l40 : (40 : Int) = ((40 : Nat) : Int) := rfl
theorem l41 : (41 : Int) = ((41 : Nat) : Int) := rfl
theorem l42 : (42 : Int) = ((42 : Nat) : Int) := rfl
theorem l43 : (43 : Int) = ((43 : Nat) : Int) := rfl
theorem l44 : (44 : Int) = ((44 : Nat) : Int) := rfl
theorem l45 : (45 : Int) = ((45 : Nat) : Int) := rfl
theorem l46 : (46 : Int) = ((46 : Nat) : Int) := rfl
theorem l47 : (47 : Int) = ((47 : Nat) : Int) := rfl
theorem l48 : (48 : Int) = ((48 : Nat) : Int) := rfl
theorem l49 : (49 : Int) = ((49 : Nat) : Int) := rfl
theorem l50 : (50 : Int) = ((50 : Nat) : Int) := rfl
theorem l51 : (51 : Int) = ((51 : Nat) : Int) := rfl
theorem l52 : (52 : Int) = ((52 : Nat) : Int) := rfl
theorem l53 : (53 : Int) = ((53 : Nat) : Int) := rfl
theorem l54 : (54 : Int) = ((54 : Nat) : Int) := rfl
theorem l55 : (55 : Int) = ((55 : Nat) : Int) := rfl
theorem l56 : (56 : Int) = ((56 : Nat) : Int) := rfl
theorem l57 : (57 : Int) = ((57 : Nat) : Int) := rfl
theorem l58 : (58 : Int) = ((58 : Nat) : Int) := rfl
theorem l59 : (59 : Int) = ((59 : Nat) : Int) := rfl
theorem l60 : (60 : Int) = ((60 : Nat) : Int) := rfl
theorem l61 : (61 : Int) = ((61 : Nat) : Int) := rfl
theorem l62 : (62 : Int) = ((62 : Nat) : Int) := rfl
theorem l63 : (63 : Int) = ((63 : Nat) : Int) := rfl
theorem l64 : (64 : Int) = ((64 : Nat) : Int) := rfl
theorem l65 : (65 : Int) = ((65 : Nat) : Int) := rfl
theorem l66 : (66 : Int) = ((66 : Nat) : Int) := rfl
theorem l67 : (67 : Int) = ((67 : Nat) : Int) := rfl
theorem l68 : (68 : Int) = ((68 : Nat) : Int) := rfl
theorem l69 : (69 : Int) = ((69 : Nat) : Int) := rfl
theorem l99 : (99 : Int) = ((99 : Nat) : Int) := rfl
theorem l100 : (100 : Int) = ((100 : Nat) : Int) := rfl
theorem l101 : (101 : Int) = ((101 : Nat) : Int) := rfl
theorem l131 : (131 : Int) = ((131 : Nat) : Int) := rfl
theorem l1000 : (1000 : Int) = ((1000 : Nat) : Int) := rfl
theorem l1001 : (1001 : Int) = ((1001 : Nat) : Int) := rfl
theorem l7919 : (7919 : Int) = ((7919 : Nat) : Int) := rfl
theorem l10007 : (10007 : Int) = ((10007 : Nat) : Int) := rfl
theorem l27183 : (27183 : Int) = ((27183 : Nat) : Int) := rfl
theorem l48271 : (48271 : Int) = ((48271 : Nat) : Int) := rfl
theorem l62089 : (62089 : Int) = ((62089 : Nat) : Int) := rfl
theorem l69621 : (69621 : Int) = ((69621 : Nat) : Int) := rfl
theorem l1000003 : (1000003 : Int) = ((1000003 : Nat) : Int) := rfl
theorem l1140671 : (1140671 : Int) = ((1140671 : Nat) : Int) := rfl
theorem l27644437 : (27644437 : Int) = ((27644437 : Nat) : Int) := rfl
theorem l32416187 : (32416187 : Int) = ((32416187 : Nat) : Int) := rfl
theorem l1103515245 : (1103515245 : Int) = ((1103515245 : Nat) : Int) := rfl
theorem l2147483587 : (2147483587 : Int) = ((2147483587 : Nat) : Int) := rfl
theorem l2147483629 : (2147483629 : Int) = ((2147483629 : Nat) : Int) := rfl
theorem l2147483647 : (2147483647 : Int) = ((2147483647 : Nat) : Int) := rfl
theorem l1000000000000000000 : (1000000000000000000 : Int) = ((1000000000000000000 : Nat) : Int) := rfl
/-! ### numbers -/
section
variable {a b : Nat} {i j : Int}
theorem o_add : opD .add [.int i, .int j] = some (.int (i + j)) := rfl
theorem o_addn : opD .add [.int (a : Int), .int (b : Int)] = some (.int ((a + b : Nat) : Int)) := rfl
theorem o_sub : opD .sub [.int i, .int j] = some (.int (i - j)) := rfl
theorem o_subn (h : b ≤ a) : opD .sub [.int (a : Int), .int (b : Int)] = some (.int ((a - b : Nat) : Int)) := by
  rw [o_sub, Int.ofNat_sub h]
theorem o_mul (h : okMul i j = true) : opD .mul [.int i, .int j] = some (.int (i * j)) := by
  show (if okMul i j = true then _ else none) = _
  rw [if_pos h]
theorem okn (h : a < 2 ^ 64) : okMul (a : Int) j = true := by
  unfold okMul
  simp only [Bool.or_eq_true, Bool.and_eq_true, decide_eq_true_eq]
  left; omega
theorem okn2 (h : b < 2 ^ 64) : okMul i (b : Int) = true := by
  unfold okMul
  simp only [Bool.or_eq_true, Bool.and_eq_true, decide_eq_true_eq]
  right; omega
theorem o_muln (h : a < 2 ^ 64 ∨ b < 2 ^ 64) : opD .mul [.int (a : Int), .int (b : Int)] = some (.int ((a * b : Nat) : Int)) := by
  rw [o_mul (h.elim okn okn2), Int.natCast_mul]
theorem o_fdiv (h : j ≠ 0 ∧ j.natAbs < 1073741824) : opD .fdiv [.int i, .int j] = some (.int (i.fdiv j)) := by
  show (if j ≠ 0 ∧ j.natAbs < 1073741824 then _ else none) = _
  rw [if_pos h]
theorem o_fdivn (h : 0 < b ∧ b < 1073741824) : opD .fdiv [.int (a : Int), .int (b : Int)] = some (.int ((a / b : Nat) : Int)) := by
  rw [o_fdiv (by omega), Int.fdiv_eq_ediv_of_nonneg _ (by omega)]; rfl
theorem o_mod (h : j ≠ 0) : opD .mod [.int i, .int j] = some (.int (i.fmod j)) := by
  show (if j ≠ 0 then _ else none) = _
  rw [if_pos h]
theorem o_modn (h : 0 < b) : opD .mod [.int (a : Int), .int (b : Int)] = some (.int ((a % b : Nat) : Int)) := by
  rw [o_mod (by omega), Int.fmod_eq_emod_of_nonneg _ (by omega)]; rfl
/-- an int's rest by a positive number -/
theorem o_modi (h : 0 < b) : opD .mod [.int i, .int (b : Int)] = some (.int (((i % (b : Int)).toNat : Nat) : Int)) := by
  rw [o_mod (by omega), Int.fmod_eq_emod_of_nonneg _ (by omega), Int.toNat_of_nonneg (Int.emod_nonneg _ (by omega))]
theorem o_neg : opD .neg [.int i] = some (.int (-i)) := rfl
theorem o_neg1 : opD .neg [.int ((1 : Nat) : Int)] = some (.int (Int.negSucc 0)) := rfl
theorem o_lt : opD .lt [.int i, .int j] = some (.bl (decide (i < j))) := rfl
theorem o_le : opD .le [.int i, .int j] = some (.bl (decide (i ≤ j))) := rfl
theorem o_gt : opD .gt [.int i, .int j] = some (.bl (decide (j < i))) := rfl
theorem o_ge : opD .ge [.int i, .int j] = some (.bl (decide (j ≤ i))) := rfl
theorem o_ltn : opD .lt [.int (a : Int), .int (b : Int)] = some (.bl (decide (a < b))) := by rw [o_lt]; simp
theorem o_len' : opD .le [.int (a : Int), .int (b : Int)] = some (.bl (decide (a ≤ b))) := by rw [o_le]; simp
theorem o_gtn : opD .gt [.int (a : Int), .int (b : Int)] = some (.bl (decide (b < a))) := by rw [o_gt]; simp
theorem o_gen : opD .ge [.int (a : Int), .int (b : Int)] = some (.bl (decide (b ≤ a))) := by rw [o_ge]; simp
theorem o_eq {x y : D} (h : x.eqOk = true) (h2 : y.eqOk = true) : opD .eq [x, y] = some (.bl (D.eqv x y)) := by
  show (if (x.eqOk && y.eqOk) = true then _ else none) = _
  rw [h, h2]; rfl
theorem o_ne {x y : D} (h : x.eqOk = true) (h2 : y.eqOk = true) : opD .ne [x, y] = some (.bl (!D.eqv x y)) := by
  show (if (x.eqOk && y.eqOk) = true then _ else none) = _
  rw [h, h2]; rfl
theorem o_eqi : opD .eq [.int i, .int j] = some (.bl (decide (i = j))) := by
  rw [o_eq (int_ok i) (int_ok j)]; congr 2
theorem o_nei : opD .ne [.int i, .int j] = some (.bl (!decide (i = j))) := by
  rw [o_ne (int_ok i) (int_ok j)]; congr 2
theorem o_eqn : opD .eq [.int (a : Int), .int (b : Int)] = some (.bl (decide (a = b))) := by rw [o_eqi]; congr 2; rw [decide_eq_decide]; omega
theorem o_nen : opD .ne [.int (a : Int), .int (b : Int)] = some (.bl (!decide (a = b))) := by rw [o_nei]; congr 3; rw [decide_eq_decide]; omega
theorem o_eql {x y : List Nat} : opD .eq [dl x, dl y] = some (.bl (decide (x = y))) := by
  rw [o_eq (dl_ok x) (dl_ok y), dec_of (dl_eqv x y)]
theorem o_nel {x y : List Nat} : opD .ne [dl x, dl y] = some (.bl (!decide (x = y))) := by
  rw [o_ne (dl_ok x) (dl_ok y), dec_of (dl_eqv x y)]
theorem o_eqll {x y : List (List Nat)} : opD .eq [dll x, dll y] = some (.bl (decide (x = y))) := by
  rw [o_eq (dll_ok x) (dll_ok y), dec_of (dll_eqv x y)]
theorem o_nell {x y : List (List Nat)} : opD .ne [dll x, dll y] = some (.bl (!decide (x = y))) := by
  rw [o_ne (dll_ok x) (dll_ok y), dec_of (dll_eqv x y)]
theorem nil_ok : (D.lst []).eqOk = true := by decide
theorem o_nenil {α : Type} {f : α → D} {xs : List α} (h : (D.lst (xs.map f)).eqOk = true) : opD .ne [.lst (xs.map f), .lst []] = some (.bl (!xs.isEmpty)) := by
  rw [o_ne h nil_ok]
  cases xs <;> rfl
theorem o_eqnil {α : Type} {f : α → D} {xs : List α} (h : (D.lst (xs.map f)).eqOk = true) : opD .eq [.lst (xs.map f), .lst []] = some (.bl xs.isEmpty) := by
  rw [o_eq h nil_ok]
  cases xs <;> rfl
theorem o_nenl {xs : List Nat} : opD .ne [dl xs, .lst []] = some (.bl (!xs.isEmpty)) := o_nenil (dl_ok xs)
theorem o_nenll {xs : List (List Nat)} : opD .ne [dll xs, .lst []] = some (.bl (!xs.isEmpty)) := o_nenil (dll_ok xs)
theorem o_eqnl {xs : List Nat} : opD .eq [dl xs, .lst []] = some (.bl xs.isEmpty) := o_eqnil (dl_ok xs)
theorem o_eqnll {xs : List (List Nat)} : opD .eq [dll xs, .lst []] = some (.bl xs.isEmpty) := o_eqnil (dll_ok xs)
theorem o_isN {d : D} : opD .isN [d] = some (.bl (match d with | .non => true | _ => false)) := rfl
theorem o_toInt : opD .toInt [.int i] = some (.int i) := rfl
theorem o_toIntb {c : Bool} : opD .toInt [.bl c] = some (.int (if c then 1 else 0)) := rfl
theorem o_max2 : opD .max2 [.int i, .int j] = some (.int (if j > i then j else i)) := rfl
theorem o_min2 : opD .min2 [.int i, .int j] = some (.int (if j < i then j else i)) := rfl
end
/-! ### lists -/
section
variable {α : Type} {f : α → D} {xs ys : List α} {n i j : Nat}
theorem o_lst0 : opD .lst [] = some (.lst []) := rfl
theorem o_lst1 {a : D} : opD .lst [a] = some (.lst [a]) := by
  show (if [a].length ≤ LIM then _ else none) = _
  exact if_pos (by show 1 ≤ LIM; decide)
theorem o_lst2 {a b : D} : opD .lst [a, b] = some (.lst [a, b]) := by
  show (if [a, b].length ≤ LIM then _ else none) = _
  exact if_pos (by show 2 ≤ LIM; decide)
theorem o_lst3 {a b c : D} : opD .lst [a, b, c] = some (.lst [a, b, c]) := by
  show (if [a, b, c].length ≤ LIM then _ else none) = _
  exact if_pos (by show 3 ≤ LIM; decide)
theorem o_lst4 {a b c d : D} : opD .lst [a, b, c, d] = some (.lst [a, b, c, d]) := by
  show (if [a, b, c, d].length ≤ LIM then _ else none) = _
  exact if_pos (by show 4 ≤ LIM; decide)
theorem o_lst5 {a b c d e : D} : opD .lst [a, b, c, d, e] = some (.lst [a, b, c, d, e]) := by
  show (if [a, b, c, d, e].length ≤ LIM then _ else none) = _
  exact if_pos (by show 5 ≤ LIM; decide)
theorem o_lst6 {a b c d e f : D} : opD .lst [a, b, c, d, e, f] = some (.lst [a, b, c, d, e, f]) := by
  show (if [a, b, c, d, e, f].length ≤ LIM then _ else none) = _
  exact if_pos (by show 6 ≤ LIM; decide)
theorem o_lst7 {a b c d e f g : D} : opD .lst [a, b, c, d, e, f, g] = some (.lst [a, b, c, d, e, f, g]) := by
  show (if [a, b, c, d, e, f, g].length ≤ LIM then _ else none) = _
  exact if_pos (by show 7 ≤ LIM; decide)
theorem o_lst8 {a b c d e f g h : D} : opD .lst [a, b, c, d, e, f, g, h] = some (.lst [a, b, c, d, e, f, g, h]) := by
  show (if [a, b, c, d, e, f, g, h].length ≤ LIM then _ else none) = _
  exact if_pos (by show 8 ≤ LIM; decide)
theorem o_lst9 {a b c d e f g h i : D} : opD .lst [a, b, c, d, e, f, g, h, i] = some (.lst [a, b, c, d, e, f, g, h, i]) := by
  show (if [a, b, c, d, e, f, g, h, i].length ≤ LIM then _ else none) = _
  exact if_pos (by show 9 ≤ LIM; decide)
theorem o_lst10 {a b c d e f g h i j : D} : opD .lst [a, b, c, d, e, f, g, h, i, j] = some (.lst [a, b, c, d, e, f, g, h, i, j]) := by
  show (if [a, b, c, d, e, f, g, h, i, j].length ≤ LIM then _ else none) = _
  exact if_pos (by show 10 ≤ LIM; decide)
theorem o_lst11 {a b c d e f g h i j k : D} : opD .lst [a, b, c, d, e, f, g, h, i, j, k] = some (.lst [a, b, c, d, e, f, g, h, i, j, k]) := by
  show (if [a, b, c, d, e, f, g, h, i, j, k].length ≤ LIM then _ else none) = _
  exact if_pos (by show 11 ≤ LIM; decide)
theorem o_lst12 {a b c d e f g h i j k l : D} : opD .lst [a, b, c, d, e, f, g, h, i, j, k, l] = some (.lst [a, b, c, d, e, f, g, h, i, j, k, l]) := by
  show (if [a, b, c, d, e, f, g, h, i, j, k, l].length ≤ LIM then _ else none) = _
  exact if_pos (by show 12 ≤ LIM; decide)
theorem o_lst {l : List D} (h : l.length ≤ LIM) : opD .lst l = some (.lst l) := by
  show (if l.length ≤ LIM then _ else none) = _
  exact if_pos h
theorem o_tup2 {a b : D} : opD .tup [a, b] = some (.tup [a, b]) := by
  show (if [a, b].length ≤ LIM then _ else none) = _
  exact if_pos (by show 2 ≤ LIM; decide)
theorem o_tup3 {a b c : D} : opD .tup [a, b, c] = some (.tup [a, b, c]) := by
  show (if [a, b, c].length ≤ LIM then _ else none) = _
  exact if_pos (by show 3 ≤ LIM; decide)
theorem o_tup {l : List D} (h : l.length ≤ LIM) : opD .tup l = some (.tup l) := by
  show (if l.length ≤ LIM then _ else none) = _
  exact if_pos h
theorem o_cat {l m : List D} (h : l.length + m.length ≤ LIM) : opD .add [.lst l, .lst m] = some (.lst (l ++ m)) := by
  show (if l.length + m.length ≤ LIM then _ else none) = _
  exact if_pos h
theorem o_catf (h : xs.length + ys.length ≤ LIM) : opD .add [.lst (xs.map f), .lst (ys.map f)] = some (.lst ((xs ++ ys).map f)) := by
  rw [o_cat (by rw [List.length_map, List.length_map]; exact h), List.map_append]
theorem o_cat1 {x : α} (h : xs.length + 1 ≤ LIM) : opD .add [.lst (xs.map f), .lst [f x]] = some (.lst ((xs ++ [x]).map f)) := o_catf (ys := [x]) h
theorem o_len : opD .len [.lst (xs.map f)] = some (.int (xs.length : Nat)) := by
  show some (D.int ((xs.map f).length : Nat)) = _
  rw [List.length_map]
theorem o_len0 : opD .len [.lst []] = some (.int ((0 : Nat) : Int)) := rfl
theorem o_lenD {l : List D} : opD .len [.lst l] = some (.int (l.length : Nat)) := rfl
theorem ixN_nat (h : i < n) : ixN n (i : Int) = some i := by
  unfold ixN
  rw [if_pos (by omega), if_pos (by omega)]; simp
theorem o_ixD {l : List D} {d : D} (h : l[i]? = some d) : opD .ix [.lst l, .int (i : Nat)] = some d := by
  have hi := (List.getElem?_eq_some_iff.mp h).1
  show ((ixN l.length (i : Int)).bind fun j => l[j]?) = _
  rw [ixN_nat hi]; exact h
theorem o_ix {x : α} (h : xs[i]? = some x) : opD .ix [.lst (xs.map f), .int (i : Nat)] = some (f x) := o_ixD (by rw [List.getElem?_map, h]; rfl)
theorem o_ixg (h : i < xs.length) : opD .ix [.lst (xs.map f), .int (i : Nat)] = some (f xs[i]) := o_ix (List.getElem?_eq_getElem h)
theorem o_ix0 {x : α} : opD .ix [.lst ((x :: xs).map f), .int ((0 : Nat) : Int)] = some (f x) := o_ix (i := 0) rfl
theorem o_ixlast {x : α} (h : xs.getLast? = some x) : opD .ix [.lst (xs.map f), .int (Int.negSucc 0)] = some (f x) := by
  have hn : xs ≠ [] := fun e => by rw [e] at h; cases h
  have hl : 0 < xs.length := List.length_pos_iff.mpr hn
  show ((ixN (xs.map f).length (Int.negSucc 0)).bind fun j => (xs.map f)[j]?) = _
  have e : ixN (xs.map f).length (Int.negSucc 0) = some (xs.length - 1) := by
    unfold ixN
    rw [if_neg (by omega), if_pos (by rw [List.length_map]; omega), List.length_map]
    congr 1; omega
  rw [e, Option.bind_some, List.getElem?_map, ← List.getLast?_eq_getElem?, h]; rfl
theorem o_tix {l : List D} {d : D} (h : l[i]? = some d) : opD .ix [.tup l, .int (i : Nat)] = some d := by
  have hi := (List.getElem?_eq_some_iff.mp h).1
  show ((ixN l.length (i : Int)).bind fun j => l[j]?) = _
  rw [ixN_nat hi]; exact h
theorem sIx_nat : sIx n (i : Int) = min i n := by
  unfold sIx
  rw [if_pos (by omega)]; simp
theorem o_drop : opD (.sl true false) [.lst (xs.map f), .int (i : Nat)] = some (.lst ((xs.drop i).map f)) := by
  show some (D.lst (slice (xs.map f) (some (i : Int)) none)) = _
  unfold slice
  simp only [sIx_nat, List.length_map]
  congr 2
  rw [List.map_drop]
  by_cases h : i ≤ xs.length
  · rw [Nat.min_eq_left h]
    exact List.take_of_length_le (by rw [List.length_drop, List.length_map]; omega)
  · rw [Nat.min_eq_right (by omega), Nat.sub_self, List.take_zero, List.drop_eq_nil_of_le (by rw [List.length_map]; omega)]
theorem o_take : opD (.sl false true) [.lst (xs.map f), .int (i : Nat)] = some (.lst ((xs.take i).map f)) := by
  show some (D.lst (slice (xs.map f) none (some (i : Int)))) = _
  unfold slice
  simp only [sIx_nat, List.length_map, List.drop_zero, Nat.sub_zero]
  congr 2
  rw [List.map_take]
  by_cases h : i ≤ xs.length
  · rw [Nat.min_eq_left h]
  · rw [Nat.min_eq_right (by omega), List.take_of_length_le (by rw [List.length_map]; omega), List.take_of_length_le (by rw [List.length_map]; omega)]
theorem o_slice (h : i ≤ j) : opD (.sl true true) [.lst (xs.map f), .int (i : Nat), .int (j : Nat)] = some (.lst (((xs.take j).drop i).map f)) := by
  show some (D.lst (slice (xs.map f) (some (i : Int)) (some (j : Int)))) = _
  unfold slice
  simp only [sIx_nat, List.length_map]
  congr 2
  rw [List.map_drop, List.map_take, List.drop_take]
  by_cases h1 : j ≤ xs.length
  · rw [Nat.min_eq_left h1, Nat.min_eq_left (by omega)]
  · rw [Nat.min_eq_right (by omega)]
    by_cases h2 : i ≤ xs.length
    · rw [Nat.min_eq_left h2, List.take_of_length_le (by rw [List.length_drop, List.length_map]; omega), List.take_of_length_le (by rw [List.length_drop, List.length_map]; omega)]
    · rw [Nat.min_eq_right (by omega), Nat.sub_self, List.take_zero, List.drop_eq_nil_of_le (by rw [List.length_map]; omega), List.take_nil]
theorem o_rev : opD .rev [.lst (xs.map f)] = some (.lst (xs.reverse.map f)) := by
  show some (D.lst (xs.map f).reverse) = _
  rw [List.map_reverse]
theorem o_listOf {l : List D} : opD .listOf [.lst l] = some (.lst l) := rfl
theorem o_listOfT {l : List D} : opD .listOf [.tup l] = some (.lst l) := rfl
theorem o_tupOf {l : List D} : opD .tupOf [.lst l] = some (.tup l) := rfl
theorem rangeL_nat : rangeL (i : Nat) n = (List.range' i n).map dn := by
  unfold rangeL
  rw [List.range'_eq_map_range, List.map_map]; rfl
theorem rangeL_0 : rangeL 0 n = (List.range n).map dn := by
  rw [show (0 : Int) = ((0 : Nat) : Int) from rfl, rangeL_nat, List.range_eq_range']
theorem o_lr1 (h : n ≤ LIM) : opD .lr1 [.int (n : Nat)] = some (.lst ((List.range n).map dn)) := by
  show (if -LIM ≤ (n : Int) ∧ (n : Int) ≤ LIM then _ else none) = _
  rw [if_pos (by simp only [LIM] at h ⊢; omega), Int.toNat_natCast, rangeL_0]
theorem o_lr2 (h : j ≤ LIM) : opD .lr2 [.int (i : Nat), .int (j : Nat)] = if i ≤ LIM then some (.lst ((List.range' i (j - i)).map dn)) else none := by
  show (if -LIM ≤ (i : Int) ∧ (i : Int) ≤ LIM ∧ -LIM ≤ (j : Int) ∧ (j : Int) ≤ LIM ∧ (j : Int) - i ≤ LIM then _ else none) = _
  by_cases hi : i ≤ LIM
  · rw [if_pos hi, if_pos (by simp only [LIM] at h hi ⊢; omega), show ((j : Int) - i).toNat = j - i by omega, rangeL_nat]
  · rw [if_neg hi, if_neg (by simp only [LIM] at hi ⊢; omega)]
theorem it_list {l : List D} : itD .list [.lst l] = some l := rfl
theorem it_tup {l : List D} : itD .tup [.tup l] = some l := rfl
theorem it_rev : itD .rev [.lst (xs.map f)] = some (xs.reverse.map f) := by
  show some (xs.map f).reverse = _
  rw [List.map_reverse]
theorem it_r1 (h : n ≤ LIM) : itD .r1 [.int (n : Nat)] = some ((List.range n).map dn) := by
  show (if -LIM ≤ (n : Int) ∧ (n : Int) ≤ LIM then _ else none) = _
  rw [if_pos (by simp only [LIM] at h ⊢; omega), Int.toNat_natCast, rangeL_0]
theorem it_r2 (hi : i ≤ LIM) (h : j ≤ LIM) : itD .r2 [.int (i : Nat), .int (j : Nat)] = some ((List.range' i (j - i)).map dn) := by
  show (if -LIM ≤ (i : Int) ∧ (i : Int) ≤ LIM ∧ -LIM ≤ (j : Int) ∧ (j : Int) ≤ LIM then _ else none) = _
  rw [if_pos (by simp only [LIM] at h hi ⊢; omega), show ((j : Int) - i).toNat = j - i by omega, rangeL_nat]
def enm (f : α → D) (p : α × Nat) : D := .tup [.int ((p.2 : Nat) : Int), f p.1]
theorem it_enum : itD .enum [.lst (xs.map f)] = some (xs.zipIdx.map (enm f)) := by
  show some ((xs.map f).zipIdx.map _) = _
  rw [List.zipIdx_map, List.map_map]; rfl
def zpm {β : Type} (f : α → D) (g : β → D) (p : α × β) : D := .tup [f p.1, g p.2]
theorem it_zip {β : Type} {g : β → D} {zs : List β} : itD (.zip false) [.lst (xs.map f), .lst (zs.map g)] = some ((xs.zip zs).map (zpm f g)) := by
  show (if _ then _ else if false = true then _ else _) = _
  have e : ((xs.map f).zip (zs.map g)).map (fun p => D.tup [p.1, p.2]) = (xs.zip zs).map (zpm f g) := by
    rw [List.zip_map, List.map_map]; rfl
  rw [← e]
  split <;> rfl
theorem o_allb {bs : List Bool} : opD .all [.lst (bs.map D.bl)] = some (.bl (bs.all id)) := by
  have e : blsOf (bs.map D.bl) = some bs := by
    induction bs with
    | nil => rfl
    | cons b bs ih => simp [blsOf, ih]
  show (blsOf (bs.map D.bl)).map _ = _
  rw [e]; rfl
theorem o_all {g : α → Bool} : opD .all [.lst (xs.map fun x => D.bl (g x))] = some (.bl (xs.all g)) := by
  have := o_allb (bs := xs.map g)
  rw [List.map_map] at this
  rw [show (xs.map fun x => D.bl (g x)) = xs.map (D.bl ∘ g) from rfl, this, List.all_map]; rfl
theorem o_anyb {bs : List Bool} : opD .any [.lst (bs.map D.bl)] = some (.bl (bs.any id)) := by
  have e : blsOf (bs.map D.bl) = some bs := by
    induction bs with
    | nil => rfl
    | cons b bs ih => simp [blsOf, ih]
  show (blsOf (bs.map D.bl)).map _ = _
  rw [e]; rfl
theorem o_any {g : α → Bool} : opD .any [.lst (xs.map fun x => D.bl (g x))] = some (.bl (xs.any g)) := by
  have := o_anyb (bs := xs.map g)
  rw [List.map_map] at this
  rw [show (xs.map fun x => D.bl (g x)) = xs.map (D.bl ∘ g) from rfl, this, List.any_map]; rfl
theorem ints_map {g : α → Int} {xs : List α} : intsOf (xs.map fun x => D.int (g x)) = some (xs.map g) := by
  induction xs with
  | nil => rfl
  | cons x xs ih => simp [intsOf, ih]
theorem ints_dn {xs : List Nat} : intsOf (xs.map dn) = some (xs.map fun x : Nat => (x : Int)) := ints_map (g := fun x : Nat => (x : Int))
theorem o_sum {xs : List Nat} : opD .sum [dl xs] = some (.int (xs.sum : Nat)) := by
  show (intsOf (xs.map dn)).map _ = _
  rw [ints_dn]
  simp only [Option.map_some]
  congr 2
  induction xs with
  | nil => rfl
  | cons x xs ih => simp [ih]
/-- numbers in order -/
def insN (x : Nat) : List Nat → List Nat
  | [] => [x]
  | y :: ys => if x ≤ y then x :: y :: ys else y :: insN x ys
def sortN : List Nat → List Nat
  | [] => []
  | x :: xs => insN x (sortN xs)
theorem isort_nat (xs : List Nat) : isort (xs.map fun x : Nat => (x : Int)) = (sortN xs).map fun x : Nat => (x : Int) := by
  have ins : ∀ (x : Nat) (ys : List Nat), insI (x : Int) (ys.map fun x : Nat => (x : Int)) = (insN x ys).map fun x : Nat => (x : Int) := by
    intro x ys
    induction ys with
    | nil => rfl
    | cons y ys ih =>
      simp only [List.map_cons, insI, insN]
      by_cases h : x ≤ y
      · rw [if_pos (by omega), if_pos h]; rfl
      · rw [if_neg (by omega), if_neg h, ih]; rfl
  induction xs with
  | nil => rfl
  | cons x xs ih => simp only [List.map_cons, isort, sortN, ih, ins]
theorem o_srt {xs : List Nat} : opD .srt [dl xs] = some (dl (sortN xs)) := by
  show (intsOf (xs.map dn)).map _ = _
  rw [ints_dn]
  simp only [Option.map_some, isort_nat, List.map_map]
  rfl
theorem all_ok {xs : List Nat} : (xs.map dn).all D.eqOk = true := by
  rw [List.all_map, List.all_eq_true]
  intro x _; exact dn_ok x
theorem all_okl {xs : List (List Nat)} : (xs.map dl).all D.eqOk = true := by
  rw [List.all_map, List.all_eq_true]
  intro x _; exact dl_ok x
theorem any_dn {xs : List Nat} {x : Nat} : ((xs.map dn).any fun y => D.eqv y (dn x)) = decide (x ∈ xs) := by
  refine dec_of ?_
  rw [List.any_map, List.any_eq_true]
  constructor
  · rintro ⟨y, hy, e⟩
    rw [← (dn_eqv y x).mp e]; exact hy
  · intro h
    exact ⟨x, h, (dn_eqv x x).mpr rfl⟩
theorem any_dl {xs : List (List Nat)} {x : List Nat} : ((xs.map dl).any fun y => D.eqv y (dl x)) = decide (x ∈ xs) := by
  refine dec_of ?_
  rw [List.any_map, List.any_eq_true]
  constructor
  · rintro ⟨y, hy, e⟩
    rw [← (dl_eqv y x).mp e]; exact hy
  · intro h
    exact ⟨x, h, (dl_eqv x x).mpr rfl⟩
theorem o_inn {xs : List Nat} {x : Nat} : opD .inn [dn x, dl xs] = some (.bl (decide (x ∈ xs))) := by
  show (if ((dn x).eqOk && (xs.map dn).all D.eqOk) = true then _ else none) = _
  rw [dn_ok, all_ok, any_dn]; rfl
theorem o_notin {xs : List Nat} {x : Nat} : opD .notin [dn x, dl xs] = some (.bl (!decide (x ∈ xs))) := by
  show (if ((dn x).eqOk && (xs.map dn).all D.eqOk) = true then _ else none) = _
  rw [dn_ok, all_ok, any_dn]; rfl
theorem o_innl {xs : List (List Nat)} {x : List Nat} : opD .inn [dl x, dll xs] = some (.bl (decide (x ∈ xs))) := by
  show (if ((dl x).eqOk && (xs.map dl).all D.eqOk) = true then _ else none) = _
  rw [dl_ok, all_okl, any_dl]; rfl
theorem o_notinl {xs : List (List Nat)} {x : List Nat} : opD .notin [dl x, dll xs] = some (.bl (!decide (x ∈ xs))) := by
  show (if ((dl x).eqOk && (xs.map dl).all D.eqOk) = true then _ else none) = _
  rw [dl_ok, all_okl, any_dl]; rfl
theorem o_index {xs : List Nat} {x : Nat} : opD .index [dl xs, dn x] = (xs.findIdx? (· == x)).map fun j => dn j := by
  show (if ((dn x).eqOk && (xs.map dn).all D.eqOk) = true then _ else none) = _
  rw [dn_ok, all_ok]
  simp only [Bool.and_self, if_true]
  congr 1
  rw [List.findIdx?_map]
  congr 1
  funext y
  simp only [Function.comp_apply]
  exact Bool.eq_iff_iff.mpr ⟨fun h => by rw [(dn_eqv y x).mp h]; simp, fun h => (dn_eqv y x).mpr (by simpa using h)⟩
theorem o_indexm {xs : List Nat} {x : Nat} (h : x ∈ xs) : opD .index [dl xs, dn x] = some (dn (xs.idxOf x)) := by
  rw [o_index]
  have : xs.findIdx? (· == x) = some (xs.idxOf x) := by
    unfold List.idxOf
    rw [List.findIdx?_eq_some_iff_findIdx_eq]
    exact ⟨List.findIdx_lt_length_of_exists ⟨x, h, by simp⟩, rfl⟩
  rw [this]; rfl
theorem o_count {xs : List Nat} {x : Nat} : opD .count [dl xs, dn x] = some (dn (xs.count x)) := by
  show (intsOf (xs.map dn)).map _ = _
  rw [ints_dn]
  simp only [Option.map_some]
  congr 3
  induction xs with
  | nil => rfl
  | cons y ys ih =>
    simp only [List.map_cons, List.count_cons, ih]
    by_cases h : y = x
    · subst h; simp
    · have : ¬ ((y : Int) = (x : Int)) := by omega
      simp [h, this]
end
/-! ### kinds -/
theorem isi_i_int {i : Int} : opD (.isi "int") [.int i] = some (.bl true) := by simp [opD, tyD, tyName, isiD]
theorem isi_i_bool {i : Int} : opD (.isi "bool") [.int i] = some (.bl false) := by simp [opD, tyD, tyName, isiD]
theorem isi_i_list {i : Int} : opD (.isi "list") [.int i] = some (.bl false) := by simp [opD, tyD, tyName, isiD]
theorem isi_i_tuple {i : Int} : opD (.isi "tuple") [.int i] = some (.bl false) := by simp [opD, tyD, tyName, isiD]
theorem isi_i_str {i : Int} : opD (.isi "str") [.int i] = some (.bl false) := by simp [opD, tyD, tyName, isiD]
theorem isi2_i {i : Int} : opD (.isi2 "list" "tuple") [.int i] = some (.bl false) := by simp [opD, tyD, tyName, isiD]
theorem isn_i {i : Int} : opD .isN [.int i] = some (.bl false) := rfl
theorem notn_i {i : Int} : opD .notN [.int i] = some (.bl true) := rfl
theorem isb_i {i : Int} {c : Bool} : opD (.isB c) [.int i] = some (.bl false) := rfl
theorem isi_b_int {b : Bool} : opD (.isi "int") [.bl b] = some (.bl true) := by simp [opD, tyD, tyName, isiD]
theorem isi_b_bool {b : Bool} : opD (.isi "bool") [.bl b] = some (.bl true) := by simp [opD, tyD, tyName, isiD]
theorem isi_b_list {b : Bool} : opD (.isi "list") [.bl b] = some (.bl false) := by simp [opD, tyD, tyName, isiD]
theorem isi_b_tuple {b : Bool} : opD (.isi "tuple") [.bl b] = some (.bl false) := by simp [opD, tyD, tyName, isiD]
theorem isi_b_str {b : Bool} : opD (.isi "str") [.bl b] = some (.bl false) := by simp [opD, tyD, tyName, isiD]
theorem isi2_b {b : Bool} : opD (.isi2 "list" "tuple") [.bl b] = some (.bl false) := by simp [opD, tyD, tyName, isiD]
theorem isn_b {b : Bool} : opD .isN [.bl b] = some (.bl false) := rfl
theorem notn_b {b : Bool} : opD .notN [.bl b] = some (.bl true) := rfl
theorem isi_s_int {s : Str} : opD (.isi "int") [.str s] = some (.bl false) := by simp [opD, tyD, tyName, isiD]
theorem isi_s_bool {s : Str} : opD (.isi "bool") [.str s] = some (.bl false) := by simp [opD, tyD, tyName, isiD]
theorem isi_s_list {s : Str} : opD (.isi "list") [.str s] = some (.bl false) := by simp [opD, tyD, tyName, isiD]
theorem isi_s_tuple {s : Str} : opD (.isi "tuple") [.str s] = some (.bl false) := by simp [opD, tyD, tyName, isiD]
theorem isi_s_str {s : Str} : opD (.isi "str") [.str s] = some (.bl true) := by simp [opD, tyD, tyName, isiD]
theorem isi2_s {s : Str} : opD (.isi2 "list" "tuple") [.str s] = some (.bl false) := by simp [opD, tyD, tyName, isiD]
theorem isn_s {s : Str} : opD .isN [.str s] = some (.bl false) := rfl
theorem notn_s {s : Str} : opD .notN [.str s] = some (.bl true) := rfl
theorem isb_s {s : Str} {c : Bool} : opD (.isB c) [.str s] = some (.bl false) := rfl
theorem isi_n_int  : opD (.isi "int") [.non] = some (.bl false) := by simp [opD, tyD, tyName, isiD]
theorem isi_n_bool  : opD (.isi "bool") [.non] = some (.bl false) := by simp [opD, tyD, tyName, isiD]
theorem isi_n_list  : opD (.isi "list") [.non] = some (.bl false) := by simp [opD, tyD, tyName, isiD]
theorem isi_n_tuple  : opD (.isi "tuple") [.non] = some (.bl false) := by simp [opD, tyD, tyName, isiD]
theorem isi_n_str  : opD (.isi "str") [.non] = some (.bl false) := by simp [opD, tyD, tyName, isiD]
theorem isi2_n  : opD (.isi2 "list" "tuple") [.non] = some (.bl false) := by simp [opD, tyD, tyName, isiD]
theorem isn_n  : opD .isN [.non] = some (.bl true) := rfl
theorem notn_n  : opD .notN [.non] = some (.bl false) := rfl
theorem isb_n  {c : Bool} : opD (.isB c) [.non] = some (.bl false) := rfl
theorem isi_l_int {l : List D} : opD (.isi "int") [.lst l] = some (.bl false) := by simp [opD, tyD, tyName, isiD]
theorem isi_l_bool {l : List D} : opD (.isi "bool") [.lst l] = some (.bl false) := by simp [opD, tyD, tyName, isiD]
theorem isi_l_list {l : List D} : opD (.isi "list") [.lst l] = some (.bl true) := by simp [opD, tyD, tyName, isiD]
theorem isi_l_tuple {l : List D} : opD (.isi "tuple") [.lst l] = some (.bl false) := by simp [opD, tyD, tyName, isiD]
theorem isi_l_str {l : List D} : opD (.isi "str") [.lst l] = some (.bl false) := by simp [opD, tyD, tyName, isiD]
theorem isi2_l {l : List D} : opD (.isi2 "list" "tuple") [.lst l] = some (.bl true) := by simp [opD, tyD, tyName, isiD]
theorem isn_l {l : List D} : opD .isN [.lst l] = some (.bl false) := rfl
theorem notn_l {l : List D} : opD .notN [.lst l] = some (.bl true) := rfl
theorem isb_l {l : List D} {c : Bool} : opD (.isB c) [.lst l] = some (.bl false) := rfl
theorem isi_t_int {l : List D} : opD (.isi "int") [.tup l] = some (.bl false) := by simp [opD, tyD, tyName, isiD]
theorem isi_t_bool {l : List D} : opD (.isi "bool") [.tup l] = some (.bl false) := by simp [opD, tyD, tyName, isiD]
theorem isi_t_list {l : List D} : opD (.isi "list") [.tup l] = some (.bl false) := by simp [opD, tyD, tyName, isiD]
theorem isi_t_tuple {l : List D} : opD (.isi "tuple") [.tup l] = some (.bl true) := by simp [opD, tyD, tyName, isiD]
theorem isi_t_str {l : List D} : opD (.isi "str") [.tup l] = some (.bl false) := by simp [opD, tyD, tyName, isiD]
theorem isi2_t {l : List D} : opD (.isi2 "list" "tuple") [.tup l] = some (.bl true) := by simp [opD, tyD, tyName, isiD]
theorem isn_t {l : List D} : opD .isN [.tup l] = some (.bl false) := rfl
theorem notn_t {l : List D} : opD .notN [.tup l] = some (.bl true) := rfl
theorem isb_t {l : List D} {c : Bool} : opD (.isB c) [.tup l] = some (.bl false) := rfl
theorem isi_d_int  : opD (.isi "int") [.dct] = some (.bl false) := by simp [opD, tyD, tyName, isiD]
theorem isi_d_bool  : opD (.isi "bool") [.dct] = some (.bl false) := by simp [opD, tyD, tyName, isiD]
theorem isi_d_list  : opD (.isi "list") [.dct] = some (.bl false) := by simp [opD, tyD, tyName, isiD]
theorem isi_d_tuple  : opD (.isi "tuple") [.dct] = some (.bl false) := by simp [opD, tyD, tyName, isiD]
theorem isi_d_str  : opD (.isi "str") [.dct] = some (.bl false) := by simp [opD, tyD, tyName, isiD]
theorem isi2_d  : opD (.isi2 "list" "tuple") [.dct] = some (.bl false) := by simp [opD, tyD, tyName, isiD]
theorem isn_d  : opD .isN [.dct] = some (.bl false) := rfl
theorem notn_d  : opD .notN [.dct] = some (.bl true) := rfl
theorem isb_d  {c : Bool} : opD (.isB c) [.dct] = some (.bl false) := rfl
theorem isb_b {b c : Bool} : opD (.isB c) [.bl b] = some (.bl (b == c)) := rfl
/-! ### lists that stand in slots -/
section
variable {α : Type} {f : α → D} {xs : List α}
theorem isL_lst {l : List D} : isL (some (.lst l)) = true := rfl
theorem isR_rawl {n : Nat} : isR (some (.rawl n)) = true := rfl
theorem app_lst {l : List D} {d : D} (h : l.length < LIM) : appD (some (.lst l)) d = some (.lst (l ++ [d])) := by
  show (if l.length < LIM then _ else none) = _
  exact if_pos h
theorem app_map {x : α} (h : xs.length < LIM) : appD (some (.lst (xs.map f))) (f x) = some (.lst ((xs ++ [x]).map f)) := by
  rw [app_lst (by rw [List.length_map]; exact h)]
  simp
theorem tall_l {xs : List Nat} {m : Nat} (h : 1 ≤ m) : tallD m (dl xs) = some (dl xs) := by
  unfold tallD
  rw [dl_flat, Bool.true_and, if_pos (by have := dl_h xs; simp; omega)]
theorem tall_ll {xs : List (List Nat)} {m : Nat} (h : 2 ≤ m) : tallD m (dll xs) = some (dll xs) := by
  unfold tallD
  rw [dll_flat, Bool.true_and, if_pos (by have := dll_h xs; simp; omega)]
end
/-! ### lists of five (a purse), of three (a generator) -/
theorem ix3_0 {a b c : D} : opD .ix [.lst [a, b, c], .int ((0 : Nat) : Int)] = some a := o_ixD rfl
theorem sx3_0 {a b c x : D} : setD (some (.lst [a, b, c])) (.int ((0 : Nat) : Int)) x = some (.lst [x, b, c]) := rfl
theorem ix3_1 {a b c : D} : opD .ix [.lst [a, b, c], .int ((1 : Nat) : Int)] = some b := o_ixD rfl
theorem sx3_1 {a b c x : D} : setD (some (.lst [a, b, c])) (.int ((1 : Nat) : Int)) x = some (.lst [a, x, c]) := rfl
theorem ix3_2 {a b c : D} : opD .ix [.lst [a, b, c], .int ((2 : Nat) : Int)] = some c := o_ixD rfl
theorem sx3_2 {a b c x : D} : setD (some (.lst [a, b, c])) (.int ((2 : Nat) : Int)) x = some (.lst [a, b, x]) := rfl
theorem ix5_0 {a b c d e : D} : opD .ix [.lst [a, b, c, d, e], .int ((0 : Nat) : Int)] = some a := o_ixD rfl
theorem sx5_0 {a b c d e x : D} : setD (some (.lst [a, b, c, d, e])) (.int ((0 : Nat) : Int)) x = some (.lst [x, b, c, d, e]) := rfl
theorem ix5_1 {a b c d e : D} : opD .ix [.lst [a, b, c, d, e], .int ((1 : Nat) : Int)] = some b := o_ixD rfl
theorem sx5_1 {a b c d e x : D} : setD (some (.lst [a, b, c, d, e])) (.int ((1 : Nat) : Int)) x = some (.lst [a, x, c, d, e]) := rfl
theorem ix5_2 {a b c d e : D} : opD .ix [.lst [a, b, c, d, e], .int ((2 : Nat) : Int)] = some c := o_ixD rfl
theorem sx5_2 {a b c d e x : D} : setD (some (.lst [a, b, c, d, e])) (.int ((2 : Nat) : Int)) x = some (.lst [a, b, x, d, e]) := rfl
theorem ix5_3 {a b c d e : D} : opD .ix [.lst [a, b, c, d, e], .int ((3 : Nat) : Int)] = some d := o_ixD rfl
theorem sx5_3 {a b c d e x : D} : setD (some (.lst [a, b, c, d, e])) (.int ((3 : Nat) : Int)) x = some (.lst [a, b, c, x, e]) := rfl
theorem ix5_4 {a b c d e : D} : opD .ix [.lst [a, b, c, d, e], .int ((4 : Nat) : Int)] = some e := o_ixD rfl
theorem sx5_4 {a b c d e x : D} : setD (some (.lst [a, b, c, d, e])) (.int ((4 : Nat) : Int)) x = some (.lst [a, b, c, d, x]) := rfl
theorem aug_lst {l : List D} {j : D} : augX (some (.lst l)) j = opD .ix [.lst l, j] := rfl
theorem augn {a b : Nat} : augD .add (.int (a : Int)) (.int (b : Int)) = some (.int ((a + b : Nat) : Int)) := rfl
theorem popi_map {α : Type} {f : α → D} {xs : List α} {i : Nat} {x : α} (h : xs[i]? = some x) (hl : xs.length < 2 ^ 63) : popiD (some (.lst (xs.map f))) (.int (i : Nat)) = some (f x, .lst ((xs.eraseIdx i).map f)) := by
  have hi := (List.getElem?_eq_some_iff.mp h).1
  have : ∀ (ys : List α) (j : Nat), (ys.map f).eraseIdx j = (ys.eraseIdx j).map f := by
    intro ys
    induction ys with
    | nil => intro j; rfl
    | cons y ys ih =>
      intro j
      cases j with
      | zero => rfl
      | succ j => simp [List.eraseIdx, ih]
  have e : popiD (some (.lst (xs.map f))) (.int (i : Nat)) = ((xs.map f)[((i : Nat) : Int).toNat]?).map fun d => (d, D.lst ((xs.map f).eraseIdx ((i : Nat) : Int).toNat)) := by
    simp only [popiD]
    exact if_pos ⟨by omega, by omega⟩
  rw [e, Int.toNat_natCast, this, List.getElem?_map, h]
  rfl
theorem perm_erase {α : Type} : ∀ {xs : List α} {i : Nat} {x : α}, xs[i]? = some x → xs.Perm (x :: xs.eraseIdx i)
  | [], i, x, h => by simp at h
  | y :: ys, 0, x, h => by
    simp only [List.getElem?_cons_zero, Option.some.injEq] at h
    subst h; exact List.Perm.refl _
  | y :: ys, i + 1, x, h => by
    have := perm_erase (xs := ys) (i := i) (x := x) (by simpa using h)
    exact (List.Perm.cons y this).trans (List.Perm.swap ..)
theorem o_pown {a b : Nat} (hb : b ≤ 1000) (ha : a < 2 ^ 100) : opD .pow [.int (a : Int), .int (b : Int)] = some (.int ((a ^ b : Nat) : Int)) := by
  have h2 : a < 2 ^ 1000 := Nat.lt_of_lt_of_le ha (Nat.pow_le_pow_right (by omega) (by omega))
  show (if 0 ≤ (b : Int) ∧ (b : Int) ≤ 1000 ∧ (a : Int).natAbs < 2 ^ 1000 then _ else none) = _
  rw [if_pos ⟨by omega, by omega, by rw [Int.natAbs_natCast]; exact h2⟩, Int.toNat_natCast, Int.natCast_pow]
theorem o_takez {α : Type} {f : α → D} {xs : List α} {i : Nat} : opD (.sl false true) [.fzl (xs.map f), .int (i : Nat)] = some (.lst ((xs.take i).map f)) := by
  have := o_take (f := f) (xs := xs) (i := i)
  exact this
theorem arr10 {a b : D} : arrange [a, b] [1, 0] = [b, a] := rfl
theorem arr01 {a b : D} : arrange [a, b] [0, 1] = [a, b] := rfl
theorem arr0 {a : D} : arrange [a] [0] = [a] := rfl
theorem arr210 {a b c : D} : arrange [a, b, c] [2, 1, 0] = [c, b, a] := rfl
theorem arr012 {a b c : D} : arrange [a, b, c] [0, 1, 2] = [a, b, c] := rfl
theorem arr120 {a b c : D} : arrange [a, b, c] [1, 2, 0] = [c, a, b] := rfl
theorem arr201 {a b c : D} : arrange [a, b, c] [2, 0, 1] = [b, c, a] := rfl
end PL

namespace PL
open PySem OH
theorem digits_len : ∀ (fuel n e : Nat) (acc : List Char), n < 10 ^ (e + 1) → (Nat.toDigitsCore 10 fuel n acc).length ≤ acc.length + (e + 1)
  | 0, n, e, acc, _ => by simp [Nat.toDigitsCore]
  | fuel + 1, n, e, acc, h => by
    unfold Nat.toDigitsCore
    simp only
    split
    · simp
    · rename_i hn
      cases e with
      | zero => exfalso; apply hn; omega
      | succ e =>
        have := digits_len fuel (n / 10) e (Nat.digitChar (n % 10) :: acc) (by rw [Nat.div_lt_iff_lt_mul (by omega)]; rw [← Nat.pow_succ]; exact h)
        simp only [List.length_cons] at this
        omega
theorem nat_text {n e : Nat} (h : n < 10 ^ (e + 1)) : n.repr.toList.length ≤ e + 1 := by
  have := digits_len (n + 1) n e [] h
  unfold Nat.repr Nat.toDigits
  rw [String.toList_ofList]
  simpa using this
theorem int_text {i : Int} (h : i.natAbs < 10 ^ 50) : (toString i : String).toList.length ≤ 51 := by
  cases i with
  | ofNat n =>
    have := nat_text (n := n) (e := 49) h
    show n.repr.toList.length ≤ 51
    omega
  | negSucc n =>
    have := nat_text (n := n + 1) (e := 49) h
    show ("-" ++ (n + 1).repr).toList.length ≤ 51
    rw [String.toList_append, List.length_append]
    have : ("-" : String).toList.length = 1 := by decide
    omega
theorem str_len (s : String) : (Str.ofString s).length = s.toList.length := by
  rw [Str.ofString_eq_toList]
  simp [Str.length]
def okS (s : Str) : Prop := ∀ c ∈ s.cps.toList, c < 0x110000
theorem okS_of (s : String) : okS (Str.ofString s) := by
  intro c hc
  rw [Str.ofString_eq_toList] at hc
  simp only [List.mem_map] at hc
  obtain ⟨ch, _, rfl⟩ := hc
  have := ch.valid
  unfold Char.toNat
  rcases this with h | h
  · exact Nat.lt_trans h (by decide)
  · exact h.2
theorem okS_app {a b : Str} (ha : okS a) (hb : okS b) : okS (a ++ b) := by
  intro c hc
  have : c ∈ a.cps.toList ++ b.cps.toList := by
    have e : (a ++ b).cps = a.cps ++ b.cps := rfl
    rw [e, Array.toList_append] at hc; exact hc
  rcases List.mem_append.mp this with h | h
  · exact ha c h
  · exact hb c h
theorem okS_join {sep : Str} (hs : okS sep) : ∀ {ts : List Str}, (∀ t ∈ ts, okS t) → okS (Str.join sep ts)
  | [], _ => by intro c hc; simp [Str.join, Str.empty] at hc
  | [x], h => h x List.mem_cons_self
  | x :: y :: r, h => okS_app (okS_app (h x List.mem_cons_self) hs) (okS_join hs fun t ht => h t (List.mem_cons_of_mem _ ht))
theorem okS_from : ∀ {ts : List Str} {k : Nat} {acc : Str}, okS acc → (∀ t ∈ ts, okS t) → okS (textFrom k acc ts)
  | [], k, acc, ha, _ => ha
  | t :: ts, k, acc, ha, h => by
    show okS (textFrom (k + 1) (acc ++ (if k > 0 then ", " else "" : String) ++ t) ts)
    exact okS_from (okS_app (okS_app ha (okS_of _)) (h t List.mem_cons_self)) fun u hu => h u (List.mem_cons_of_mem _ hu)
def sumL (ts : List Str) : Nat := (ts.map fun t => t.length + 2).sum
theorem from_len : ∀ {ts : List Str} {k : Nat} {acc : Str}, (textFrom k acc ts).length ≤ acc.length + sumL ts
  | [], k, acc => by simp [textFrom, sumL]
  | t :: ts, k, acc => by
    show (textFrom (k + 1) (acc ++ (if k > 0 then ", " else "" : String) ++ t) ts).length ≤ _
    have ih := from_len (ts := ts) (k := k + 1) (acc := acc ++ (if k > 0 then ", " else "" : String) ++ t)
    rw [strLen_append, strLen_append] at ih
    have : (Str.ofString (if k > 0 then ", " else "" : String)).length ≤ 2 := by split <;> decide
    simp only [sumL, List.map_cons, List.sum_cons] at ih ⊢
    omega
theorem join_len : ∀ {ts : List Str}, (Str.join ", " ts).length ≤ sumL ts
  | [] => by simp [Str.join, sumL]; rfl
  | [x] => by simp [Str.join, sumL]
  | x :: y :: r => by
    have ih := join_len (ts := y :: r)
    show (x ++ ", " ++ Str.join ", " (y :: r)).length ≤ _
    rw [strLen_append, strLen_append]
    have : (Str.ofString ", ").length = 2 := by decide
    simp only [sumL, List.map_cons, List.sum_cons] at ih ⊢
    omega
mutual
/-- may be written down: numbers of no more than fifty figures, texts that are fine -/
def repD : D → Bool
  | .non => true
  | .bl _ => true
  | .int i => decide (i.natAbs < 10 ^ 50)
  | .lst xs => repL xs
  | .tup xs => repL xs
  | .str s => decide ((PyData.shown (.str s)).length ≤ 12 * s.cps.size + 2) && (PyData.shown (.str s)).cps.toList.all (· < 0x110000) && s.cps.toList.all (· < 0x110000)
  | _ => false
def repL : List D → Bool
  | [] => true
  | x :: xs => repD x && repL xs
end
mutual
theorem rep_flat : ∀ (d : D), repD d = true → D.flat d = true
  | .non, _ | .bl _, _ | .int _, _ | .str _, _ => by simp [D.flat]
  | .lst xs, h => by simp only [D.flat]; exact rep_flatL xs (by simpa [repD] using h)
  | .tup xs, h => by simp only [D.flat]; exact rep_flatL xs (by simpa [repD] using h)
  | .dct, h | .fzl _, h | .rawl _, h | .oth, h => by simp [repD] at h
theorem rep_flatL : ∀ (ds : List D), repL ds = true → D.flatL ds = true
  | [], _ => rfl
  | x :: xs, h => by
    simp only [repL, Bool.and_eq_true] at h
    simp only [D.flatL, rep_flat x h.1, rep_flatL xs h.2, Bool.and_self]
end
mutual
theorem rep_txt : ∀ (d : D), repD d = true → D.txt d = true
  | .non, _ | .bl _, _ | .int _, _ => by simp [D.txt]
  | .str s, h => by
    simp only [repD, Bool.and_eq_true] at h
    simp only [D.txt]; exact h.2
  | .lst xs, h => by simp only [D.txt]; exact rep_txtL xs (by simpa [repD] using h)
  | .tup xs, h => by simp only [D.txt]; exact rep_txtL xs (by simpa [repD] using h)
  | .dct, h | .fzl _, h | .rawl _, h | .oth, h => by simp [repD] at h
theorem rep_txtL : ∀ (ds : List D), repL ds = true → D.txtL ds = true
  | [], _ => rfl
  | x :: xs, h => by
    simp only [repL, Bool.and_eq_true] at h
    simp only [D.txtL, rep_txt x h.1, rep_txtL xs h.2, Bool.and_self]
end
theorem log2_lt {n : Nat} (h : n < 10 ^ 50) : n.log2 < 1920 := by
  by_cases h0 : n = 0
  · subst h0; decide
  · have : n.log2 < 200 := by
      rw [Nat.log2_lt h0]
      exact Nat.lt_trans h (by decide)
    omega
mutual
theorem rep_ok : ∀ (d : D), repD d = true → PyData.showable d.py = true ∧ d.shown.length ≤ D.wt d ∧ okS d.shown ∧ PyData.depth d.py = D.height d
  | .non, _ => by
    refine ⟨rfl, ?_, okS_of "None", ?_⟩
    · show (Str.ofString "None").length ≤ _; rw [str_len]; decide
    · simp [D.py, PyData.depth, D.height]
  | .bl b, _ => by
    refine ⟨rfl, ?_, ?_, ?_⟩
    · cases b
      · show (Str.ofString "False").length ≤ _; rw [str_len]; decide
      · show (Str.ofString "True").length ≤ _; rw [str_len]; decide
    · cases b
      · exact okS_of "False"
      · exact okS_of "True"
    · simp [D.py, PyData.depth, D.height]
  | .int i, h => by
    have h' : i.natAbs < 10 ^ 50 := by simpa [repD] using h
    refine ⟨?_, ?_, okS_of _, ?_⟩
    · simp only [D.py, PyData.showable, decide_eq_true_eq]; exact log2_lt h'
    · show (Str.ofString (toString i)).length ≤ 64
      rw [str_len]
      exact Nat.le_trans (int_text h') (by omega)
    · simp [D.py, PyData.depth, D.height]
  | .str s, h => by
    simp only [repD, Bool.and_eq_true, decide_eq_true_eq] at h
    refine ⟨rfl, ?_, ?_, ?_⟩
    · simp only [D.shown, D.py, D.wt]; exact h.1.1
    · intro c hc
      exact of_decide_eq_true (List.all_eq_true.mp h.1.2 c hc)
    · simp [D.py, PyData.depth, D.height]
  | .lst xs, h => by
    obtain ⟨a, b, c, e⟩ := rep_okL xs (by simpa [repD] using h)
    refine ⟨by simpa [D.py, PyData.showable] using a, ?_, ?_, ?_⟩
    · show (textFrom 0 "[" (PyData.shownAll (D.pyL xs)) ++ "]").length ≤ D.wtL xs + 2
      rw [strLen_append]
      have := from_len (ts := PyData.shownAll (D.pyL xs)) (k := 0) (acc := "[")
      have e1 : (Str.ofString "[").length = 1 := by decide
      have e2 : (Str.ofString "]").length = 1 := by decide
      omega
    · exact okS_app (okS_from (okS_of _) c) (okS_of _)
    · simp only [D.py, PyData.depth, D.height, e]
  | .tup xs, h => by
    obtain ⟨a, b, c, e⟩ := rep_okL xs (by simpa [repD] using h)
    refine ⟨by simpa [D.py, PyData.showable] using a, ?_, ?_, ?_⟩
    · show (("(" : Str) ++ Str.join ", " (PyData.shownAll (D.pyL xs)) ++ (if (PyData.shownAll (D.pyL xs)).length == 1 then ",)" else ")" : String)).length ≤ D.wtL xs + 3
      rw [strLen_append, strLen_append]
      have := join_len (ts := PyData.shownAll (D.pyL xs))
      have e1 : (Str.ofString "(").length = 1 := by decide
      have e2 : (Str.ofString (if (PyData.shownAll (D.pyL xs)).length == 1 then ",)" else ")" : String)).length ≤ 2 := by split <;> decide
      omega
    · exact okS_app (okS_app (okS_of _) (okS_join (okS_of _) c)) (okS_of _)
    · simp only [D.py, PyData.depth, D.height, e]
  | .dct, h | .fzl _, h | .rawl _, h | .oth, h => by simp [repD] at h
theorem rep_okL : ∀ (ds : List D), repL ds = true → PyData.showableAll (D.pyL ds) = true ∧ sumL (PyData.shownAll (D.pyL ds)) ≤ D.wtL ds ∧ (∀ t ∈ PyData.shownAll (D.pyL ds), okS t) ∧ PyData.depthAll (D.pyL ds) = D.heightL ds
  | [], _ => ⟨rfl, Nat.le_refl _, fun t h => by simp [D.pyL, PyData.shownAll] at h, by simp [D.pyL, PyData.depthAll, D.heightL]⟩
  | x :: xs, h => by
    simp only [repL, Bool.and_eq_true] at h
    obtain ⟨a, b, c, e⟩ := rep_ok x h.1
    obtain ⟨a', b', c', e'⟩ := rep_okL xs h.2
    refine ⟨by simp [D.pyL, PyData.showableAll, a, a'], ?_, fun t ht => ?_, by simp [D.pyL, PyData.depthAll, D.heightL, e, e']⟩
    · simp only [D.pyL, PyData.shownAll, sumL, List.map_cons, List.sum_cons, D.wtL] at b' ⊢
      have b2 : (PyData.shown x.py).length ≤ D.wt x := b
      omega
    · simp only [D.pyL, PyData.shownAll] at ht
      rcases List.mem_cons.mp ht with q | q
      · rw [q]; exact c
      · exact c' t q
end
theorem o_repr {d : D} (h : repD d = true) (hw : D.wt d ≤ LIM) (hh : D.height d ≤ 60) : opD .repr [d] = some (.str d.shown) := by
  obtain ⟨a, b, _, e⟩ := rep_ok d h
  show (if (d.flat && PyData.showable d.py && decide (d.shown.length ≤ LIM) && decide (PyData.depth d.py ≤ 60)) = true then _ else none) = _
  rw [rep_flat d h, a, decide_eq_true (show d.shown.length ≤ LIM by omega), decide_eq_true (show PyData.depth d.py ≤ 60 by omega)]
  rfl
theorem shown_ok {d : D} (h : repD d = true) : (D.str d.shown).eqOk = true := by
  obtain ⟨_, _, c, _⟩ := rep_ok d h
  unfold D.eqOk
  have : D.txt (.str d.shown) = true := by
    simp only [D.txt]
    exact List.all_eq_true.mpr fun x hx => decide_eq_true (c x hx)
  rw [this]; rfl
theorem str_beq (s : Str) : (s == s) = true := beq_self_eq_true s
theorem o_ne_same {d : D} (h : repD d = true) : opD .ne [.str d.shown, .str d.shown] = some (.bl false) := by
  rw [o_ne (shown_ok h) (shown_ok h)]
  simp only [D.eqv, str_beq, Bool.not_true]
theorem o_eq_same {d : D} (h : repD d = true) : opD .eq [.str d.shown, .str d.shown] = some (.bl true) := by
  rw [o_eq (shown_ok h) (shown_ok h)]
  simp only [D.eqv, str_beq]
theorem repL_map {α : Type} {f : α → D} : ∀ {xs : List α}, (∀ x ∈ xs, repD (f x) = true) → repL (xs.map f) = true
  | [], _ => rfl
  | x :: xs, h => by
    simp only [List.map_cons, repL, h x List.mem_cons_self, Bool.true_and]
    exact repL_map fun y hy => h y (List.mem_cons_of_mem _ hy)
theorem rep_dn {n : Nat} (h : n < 10 ^ 50) : repD (dn n) = true := by
  simp only [repD, decide_eq_true_eq]; simpa using h
theorem rep_dl {xs : List Nat} (h : ∀ x ∈ xs, x < 10 ^ 50) : repD (dl xs) = true := by
  simp only [repD]; exact repL_map fun x hx => rep_dn (h x hx)
theorem wtL_map {α : Type} {f : α → D} {m : Nat} : ∀ {xs : List α}, (∀ x ∈ xs, D.wt (f x) + 2 ≤ m) → D.wtL (xs.map f) ≤ xs.length * m
  | [], _ => by simp [D.wtL]
  | x :: xs, h => by
    simp only [List.map_cons, D.wtL, List.length_cons, Nat.succ_mul]
    have := wtL_map (xs := xs) fun y hy => h y (List.mem_cons_of_mem _ hy)
    have := h x List.mem_cons_self
    omega
theorem wt_dl (xs : List Nat) : D.wt (dl xs) ≤ xs.length * 66 + 2 := by
  simp only [D.wt]
  have := wtL_map (f := dn) (m := 66) (xs := xs) fun x _ => by simp [D.wt]
  omega
/-! ### plain data: no texts, so many levels -/
def plD : Nat → D → Bool
  | _, .non => true
  | _, .bl _ => true
  | _, .int _ => true
  | m + 1, .lst xs => decide (xs.length < LIM) && xs.all (plD m)
  | m + 1, .tup xs => decide (xs.length < LIM) && xs.all (plD m)
  | _, _ => false
theorem plD_all : ∀ {m : Nat} {d : D}, plD m d = true → D.flat d = true ∧ D.txt d = true ∧ D.height d ≤ m
  | m, .non, _ | m, .bl _, _ | m, .int _, _ => by simp [D.flat, D.txt, D.height]
  | m + 1, .lst xs, h => by
    simp only [plD, Bool.and_eq_true, List.all_eq_true] at h
    have q := fun x hx => plD_all (h.2 x hx)
    have a := flatL_map (f := fun d : D => d) (xs := xs) fun x hx => (q x hx).1
    have b := txtL_map (f := fun d : D => d) (xs := xs) fun x hx => (q x hx).2.1
    have c := heightL_map (f := fun d : D => d) (m := m) (xs := xs) fun x hx => (q x hx).2.2
    rw [List.map_id'] at a b c
    simp only [D.flat, D.txt, D.height]
    exact ⟨a, b, Nat.succ_le_succ c⟩
  | m + 1, .tup xs, h => by
    simp only [plD, Bool.and_eq_true, List.all_eq_true] at h
    have q := fun x hx => plD_all (h.2 x hx)
    have a := flatL_map (f := fun d : D => d) (xs := xs) fun x hx => (q x hx).1
    have b := txtL_map (f := fun d : D => d) (xs := xs) fun x hx => (q x hx).2.1
    have c := heightL_map (f := fun d : D => d) (m := m) (xs := xs) fun x hx => (q x hx).2.2
    rw [List.map_id'] at a b c
    simp only [D.flat, D.txt, D.height]
    exact ⟨a, b, Nat.succ_le_succ c⟩
  | 0, .lst _, h | 0, .tup _, h | m, .str _, h | m, .dct, h | m, .fzl _, h | m, .rawl _, h | m, .oth, h => by simp [plD] at h
theorem plD_ok {m : Nat} {d : D} (h : plD m d = true) (hm : m ≤ 60) : d.eqOk = true := by
  obtain ⟨a, b, c⟩ := plD_all h
  exact eqOk_of a b c hm
theorem pl_mono : ∀ {m n : Nat} {d : D}, plD m d = true → m ≤ n → plD n d = true
  | m, n, .non, _, _ | m, n, .bl _, _, _ | m, n, .int _, _, _ => by cases n <;> simp [plD]
  | m + 1, n + 1, .lst xs, h, l => by
    simp only [plD, Bool.and_eq_true, List.all_eq_true] at h ⊢
    exact ⟨h.1, fun x hx => pl_mono (h.2 x hx) (by omega)⟩
  | m + 1, n + 1, .tup xs, h, l => by
    simp only [plD, Bool.and_eq_true, List.all_eq_true] at h ⊢
    exact ⟨h.1, fun x hx => pl_mono (h.2 x hx) (by omega)⟩
  | m + 1, 0, _, _, l => by omega
  | 0, n, .lst _, h, _ | 0, n, .tup _, h, _ | m, n, .str _, h, _ | m, n, .dct, h, _ | m, n, .fzl _, h, _ | m, n, .rawl _, h, _ | m, n, .oth, h, _ => by simp [plD] at h
theorem pl_map {α : Type} {f : α → D} {m : Nat} {xs : List α} (h : ∀ x ∈ xs, plD m (f x) = true) (l : xs.length < LIM) : plD (m + 1) (.lst (xs.map f)) = true := by
  simp only [plD, Bool.and_eq_true, List.all_eq_true, List.length_map, decide_eq_true_eq]
  refine ⟨l, fun y hy => ?_⟩
  obtain ⟨x, hx, rfl⟩ := List.mem_map.mp hy
  exact h x hx
theorem pl_dn {m n : Nat} : plD m (dn n) = true := by cases m <;> rfl
theorem pl_dl {m : Nat} {xs : List Nat} (l : xs.length < LIM) : plD (m + 1) (dl xs) = true := pl_map (fun _ _ => pl_dn) l
theorem pl_dll {m : Nat} {xs : List (List Nat)} (l : xs.length < LIM) (h : ∀ x ∈ xs, x.length < LIM) : plD (m + 2) (dll xs) = true := pl_map (fun x hx => pl_dl (h x hx)) l
theorem zip_self {α : Type} : ∀ xs : List α, xs.zip xs = xs.map fun x => (x, x)
  | [] => rfl
  | x :: xs => by rw [List.zip_cons_cons, zip_self xs]; rfl
theorem it_zips {xs : List D} : itD (.zip false) [.lst xs, .lst xs] = some (xs.map fun x => D.tup [x, x]) := by
  show (if xs.length = xs.length then _ else _) = _
  rw [if_pos rfl, zip_self, List.map_map]; rfl
theorem it_zipt {xs : List D} : itD (.zip false) [.tup xs, .tup xs] = some (xs.map fun x => D.tup [x, x]) := by
  show (if xs.length = xs.length then _ else _) = _
  rw [if_pos rfl, zip_self, List.map_map]; rfl
def compX {α : Type} (x : Option D) (f : List D → Option α) : Option α := match x with
  | some (.lst xs) => f xs
  | _ => none
theorem compX_lst {α : Type} {xs : List D} {f : List D → Option α} : compX (some (.lst xs)) f = f xs := rfl
theorem ev_compO' {cl : Calls} {ρ : REnv} {t : Tg} {own : List Nat} {i : Nat} {cs : List E} {e : E} : ev cl (.compO t own i cs e) ρ = compX (oD ρ i) fun xs => (compD (clauseB cl t cs e) own xs (ρ.set i (some (.rawl xs.length))) []).map fun q => (.lst q.1, q.2) := by
  show (match getD ρ i with | some (.lst xs) => _ | _ => none) = _
  simp only [getD]
  cases oD ρ i with
  | none => rfl
  | some d => cases d <;> rfl
theorem appR_lt {n : Nat} (h : n < LIM) : appR (some (.rawl n)) = some (.rawl (n + 1)) := by
  simp only [appR, if_pos h]
theorem o_lent {l : List D} : opD .len [.tup l] = some (.int (l.length : Nat)) := rfl
def isNon : D → Bool | .non => true | _ => false
theorem o_isNon {d : D} : opD .isN [d] = some (.bl (isNon d)) := rfl
theorem all_tt {α : Type} {xs : List α} : (xs.all fun _ => true) = true := by simp
theorem pl_tup2 {a b : D} {m : Nat} (ha : plD m a = true) (hb : plD m b = true) : plD (m + 1) (.tup [a, b]) = true := by simp [plD, ha, hb, LIM]
theorem pl_lst2 {a b : D} {m : Nat} (ha : plD m a = true) (hb : plD m b = true) : plD (m + 1) (.lst [a, b]) = true := by simp [plD, ha, hb, LIM]
theorem pl_two {d : D} {m : Nat} (h : plD m d = true) : plD (m + 1) (.lst [d, d]) = true := pl_lst2 h h
theorem pl_one {d : D} {m : Nat} (h : plD m d = true) : plD (m + 1) (.lst [d]) = true := by simp [plD, h, LIM]
end PL

namespace PL
open PySem OH
abbrev P : Prg := prgOf OH.ds
theorem vc {k f : Nat} {F : Fn} {ds : List D} (h : P f = some F) (hl : ds.length = F.ps) : valC (callD P (k + 1)) f ds = valO (evSs (callD P k) F.body (startD F.n ds)) := call_val h hl
/-! ### is_whole -/
theorem v_whole {k n : Nat} : valC (callD P (k + 1)) 0 [dn n] = some (.bl true) := by
  rw [vc (F := f0) rfl rfl]
  simp -implicitDefEqProofs only [f0, startD, List.map_cons, List.map_nil, List.length_cons, List.length_nil, List.replicate, List.cons_append, List.nil_append, Nat.sub_self, Nat.sub_zero, Nat.zero_add, Nat.reduceAdd, Nat.reduceSub, ev_var, ev_vin, ev_mov, ev_ref, ev_int, ev_bl, ev_non, ev_str, ev_gint, ev_op, evs_nil, evs_cons, ev_and, ev_or, ev_not, ev_ite, ev_scal, ev_tall, ev_chn, ev_comp, ev_comp2, evc_nil, evc_one, bind_nm, bind_tp2, bind_tl2, bind_tp3, bind_tp4, evSs_nil, evSs_cons, evS_asg, evS_par2, evS_par3, evS_sub, evS_sub2, evS_augs, evS_ex, evS_ret, evS_retN, evS_iff, evS_pass, evS_for, evS_whl, ev_call, ev_callk, ev_app, ev_pop, ev_popi, noRef, isRef_var, isRef_vin, isRef_mov, isRef_int, isRef_bl, isRef_str, isRef_pop, isRef_not, isRef_scal, isRef_non, isRef_op, isRef_gint, isRef_and, isRef_or, isRef_ite, isRef_call, isRef_callk, isRef_app, isRef_popi, isRef_comp, isRef_comp2, isRef_tall, isRef_chn, isRef_ref, ev_callR, eva_nil, eva_ref, eva_e, fill_nil, fill_ref, fill_e, back_nil, back_ref, back_e, fin1, fin2, fin3, Option.isNone_some, Bool.false_and, aug_lst, augn, ix3_0, sx3_0, ix3_1, sx3_1, ix3_2, sx3_2, ix5_0, sx5_0, ix5_1, sx5_1, ix5_2, sx5_2, ix5_3, sx5_3, ix5_4, sx5_4, Option.isNone_none, Bool.and_self, Bool.true_and, Bool.and_true, setAt_eq, oD0, oDs, st0, sts, wipe0, wipes, Option.map_some, Option.bind_some, cont_nx, cont_rt, cond_t, cond_f, cond_bl, not_bl, tst_bl, scal_int, scal_bl, scal_str, scal_non, valO_rt, valO_nx, wipeO_nx, wipeO_rt, wipeC_some, wipeF_some, isL_lst, l0, l1, l2, l3, l4, l5, l6, l7, l8, l9, l10, l11, l12, l13, l14, l15, l16, l17, l18, l19, l20, l21, l22, l23, l24, l25, l26, l27, l28, l29, l30, l31, l32, l33, l34, l35, l36, l37, l38, l39, l40, l41, l42, l43, l44, l45, l46, l47, l48, l49, l50, l51, l52, l53, l54, l55, l56, l57, l58, l59, l60, l61, l62, l63, l64, l65, l66, l67, l68, l69, l99, l100, l101, l131, l1000, l1001, l7919, l10007, l27183, l48271, l62089, l69621, l1000003, l1140671, l27644437, l32416187, l1103515245, l2147483587, l2147483629, l2147483647, l1000000000000000000, o_lst0, o_lst1, o_lst2, o_lst3, o_lst4, o_lst5, o_lst6, o_lst7, o_lst8, o_lst9, o_lst10, o_lst11, o_lst12, o_tup2, o_tup3, o_addn, o_neg1, o_ltn, o_len', o_gtn, o_gen, o_eqn, o_nen, o_eql, o_nel, o_eqll, o_nell, o_nenl, o_nenll, o_eqnl, o_eqnll, o_len, o_len0, o_lenD, o_drop, o_take, o_takez, arr10, arr01, arr0, arr210, arr012, arr120, arr201, o_rev, o_listOf, o_listOfT, o_tupOf, List.length_map, it_list, it_tup, it_rev, it_enum, it_zip, o_allb, o_all, o_any, o_anyb, o_sum, o_srt, o_inn, o_notin, o_innl, o_notinl, o_count, o_toInt, turnB, clauseB, clauseF, if_true, if_false, Bool.false_eq_true, Bool.not_true, Bool.not_false, isi_i_int, isi_i_bool, isi_i_list, isi_i_tuple, isi_i_str, isi2_i, isn_i, notn_i, isb_i, isi_b_int, isi_b_bool, isi_b_list, isi_b_tuple, isi_b_str, isi2_b, isn_b, notn_b, isb_b, isi_s_int, isi_s_bool, isi_s_list, isi_s_tuple, isi_s_str, isi2_s, isn_s, notn_s, isb_s, isi_n_int, isi_n_bool, isi_n_list, isi_n_tuple, isi_n_str, isi2_n, isn_n, notn_n, isb_n, isi_l_int, isi_l_bool, isi_l_list, isi_l_tuple, isi_l_str, isi2_l, isn_l, notn_l, isb_l, isi_t_int, isi_t_bool, isi_t_list, isi_t_tuple, isi_t_str, isi2_t, isn_t, notn_t, isb_t, isi_d_int, isi_d_bool, isi_d_list, isi_d_tuple, isi_d_str, isi2_d, isn_d, notn_d, isb_d]
theorem sortN_mem {x : Nat} {xs : List Nat} : x ∈ sortN xs ↔ x ∈ xs := by
  have ins : ∀ (y : Nat) (ys : List Nat), x ∈ insN y ys ↔ x = y ∨ x ∈ ys := by
    intro y ys
    induction ys with
    | nil => simp [insN]
    | cons z zs ih =>
      unfold insN
      split
      · simp
      · simp only [List.mem_cons, ih]
        constructor
        · rintro (h | h | h) <;> simp [h]
        · rintro (h | h | h) <;> simp [h]
  induction xs with
  | nil => simp [sortN]
  | cons y ys ih => simp only [sortN, ins, List.mem_cons, ih]
def patternBy (xs : List Nat) : List Nat := xs.map fun v => (sortN xs).idxOf v
theorem v_pattern {k : Nat} {xs : List Nat} (h : xs.length ≤ 64) : valC (callD P (k + 1)) 5 [dl xs] = some (dl (patternBy xs)) := by
  rw [vc (F := f5) rfl rfl]
  simp -implicitDefEqProofs only [f5, startD, List.map_cons, List.map_nil, List.length_cons, List.length_nil, List.replicate, List.cons_append, List.nil_append, Nat.sub_self, Nat.sub_zero, Nat.zero_add, Nat.reduceAdd, Nat.reduceSub, ev_var, ev_vin, ev_mov, ev_ref, ev_int, ev_bl, ev_non, ev_str, ev_gint, ev_op, evs_nil, evs_cons, ev_and, ev_or, ev_not, ev_ite, ev_scal, ev_tall, ev_chn, ev_comp, ev_comp2, evc_nil, evc_one, bind_nm, bind_tp2, bind_tl2, bind_tp3, bind_tp4, evSs_nil, evSs_cons, evS_asg, evS_par2, evS_par3, evS_sub, evS_sub2, evS_augs, evS_ex, evS_ret, evS_retN, evS_iff, evS_pass, evS_for, evS_whl, ev_call, ev_callk, ev_app, ev_pop, ev_popi, noRef, isRef_var, isRef_vin, isRef_mov, isRef_int, isRef_bl, isRef_str, isRef_pop, isRef_not, isRef_scal, isRef_non, isRef_op, isRef_gint, isRef_and, isRef_or, isRef_ite, isRef_call, isRef_callk, isRef_app, isRef_popi, isRef_comp, isRef_comp2, isRef_tall, isRef_chn, isRef_ref, ev_callR, eva_nil, eva_ref, eva_e, fill_nil, fill_ref, fill_e, back_nil, back_ref, back_e, fin1, fin2, fin3, Option.isNone_some, Bool.false_and, aug_lst, augn, ix3_0, sx3_0, ix3_1, sx3_1, ix3_2, sx3_2, ix5_0, sx5_0, ix5_1, sx5_1, ix5_2, sx5_2, ix5_3, sx5_3, ix5_4, sx5_4, Option.isNone_none, Bool.and_self, Bool.true_and, Bool.and_true, setAt_eq, oD0, oDs, st0, sts, wipe0, wipes, Option.map_some, Option.bind_some, cont_nx, cont_rt, cond_t, cond_f, cond_bl, not_bl, tst_bl, scal_int, scal_bl, scal_str, scal_non, valO_rt, valO_nx, wipeO_nx, wipeO_rt, wipeC_some, wipeF_some, isL_lst, l0, l1, l2, l3, l4, l5, l6, l7, l8, l9, l10, l11, l12, l13, l14, l15, l16, l17, l18, l19, l20, l21, l22, l23, l24, l25, l26, l27, l28, l29, l30, l31, l32, l33, l34, l35, l36, l37, l38, l39, l40, l41, l42, l43, l44, l45, l46, l47, l48, l49, l50, l51, l52, l53, l54, l55, l56, l57, l58, l59, l60, l61, l62, l63, l64, l65, l66, l67, l68, l69, l99, l100, l101, l131, l1000, l1001, l7919, l10007, l27183, l48271, l62089, l69621, l1000003, l1140671, l27644437, l32416187, l1103515245, l2147483587, l2147483629, l2147483647, l1000000000000000000, o_lst0, o_lst1, o_lst2, o_lst3, o_lst4, o_lst5, o_lst6, o_lst7, o_lst8, o_lst9, o_lst10, o_lst11, o_lst12, o_tup2, o_tup3, o_addn, o_neg1, o_ltn, o_len', o_gtn, o_gen, o_eqn, o_nen, o_eql, o_nel, o_eqll, o_nell, o_nenl, o_nenll, o_eqnl, o_eqnll, o_len, o_len0, o_lenD, o_drop, o_take, o_takez, arr10, arr01, arr0, arr210, arr012, arr120, arr201, o_rev, o_listOf, o_listOfT, o_tupOf, List.length_map, it_list, it_tup, it_rev, it_enum, it_zip, o_allb, o_all, o_any, o_anyb, o_sum, o_srt, o_inn, o_notin, o_innl, o_notinl, o_count, o_toInt, turnB, clauseB, clauseF, if_true, if_false, Bool.false_eq_true, Bool.not_true, Bool.not_false]
  rw [compD_all (fun v => dn ((sortN xs).idxOf v)) (by rfl) (fun x hx => ?_) (by simp [LIM]; omega)]
  · simp -implicitDefEqProofs only [ev_var, ev_vin, ev_mov, ev_ref, ev_int, ev_bl, ev_non, ev_str, ev_gint, ev_op, evs_nil, evs_cons, ev_and, ev_or, ev_not, ev_ite, ev_scal, ev_tall, ev_chn, ev_comp, ev_comp2, evc_nil, evc_one, bind_nm, bind_tp2, bind_tl2, bind_tp3, bind_tp4, evSs_nil, evSs_cons, evS_asg, evS_par2, evS_par3, evS_sub, evS_sub2, evS_augs, evS_ex, evS_ret, evS_retN, evS_iff, evS_pass, evS_for, evS_whl, ev_call, ev_callk, ev_app, ev_pop, ev_popi, noRef, isRef_var, isRef_vin, isRef_mov, isRef_int, isRef_bl, isRef_str, isRef_pop, isRef_not, isRef_scal, isRef_non, isRef_op, isRef_gint, isRef_and, isRef_or, isRef_ite, isRef_call, isRef_callk, isRef_app, isRef_popi, isRef_comp, isRef_comp2, isRef_tall, isRef_chn, isRef_ref, ev_callR, eva_nil, eva_ref, eva_e, fill_nil, fill_ref, fill_e, back_nil, back_ref, back_e, fin1, fin2, fin3, Option.isNone_some, Bool.false_and, aug_lst, augn, ix3_0, sx3_0, ix3_1, sx3_1, ix3_2, sx3_2, ix5_0, sx5_0, ix5_1, sx5_1, ix5_2, sx5_2, ix5_3, sx5_3, ix5_4, sx5_4, Option.isNone_none, Bool.and_self, Bool.true_and, Bool.and_true, setAt_eq, oD0, oDs, st0, sts, wipe0, wipes, Option.map_some, Option.bind_some, cont_nx, cont_rt, cond_t, cond_f, cond_bl, not_bl, tst_bl, scal_int, scal_bl, scal_str, scal_non, valO_rt, valO_nx, wipeO_nx, wipeO_rt, wipeC_some, wipeF_some, isL_lst, l0, l1, l2, l3, l4, l5, l6, l7, l8, l9, l10, l11, l12, l13, l14, l15, l16, l17, l18, l19, l20, l21, l22, l23, l24, l25, l26, l27, l28, l29, l30, l31, l32, l33, l34, l35, l36, l37, l38, l39, l40, l41, l42, l43, l44, l45, l46, l47, l48, l49, l50, l51, l52, l53, l54, l55, l56, l57, l58, l59, l60, l61, l62, l63, l64, l65, l66, l67, l68, l69, l99, l100, l101, l131, l1000, l1001, l7919, l10007, l27183, l48271, l62089, l69621, l1000003, l1140671, l27644437, l32416187, l1103515245, l2147483587, l2147483629, l2147483647, l1000000000000000000, o_lst0, o_lst1, o_lst2, o_lst3, o_lst4, o_lst5, o_lst6, o_lst7, o_lst8, o_lst9, o_lst10, o_lst11, o_lst12, o_tup2, o_tup3, o_addn, o_neg1, o_ltn, o_len', o_gtn, o_gen, o_eqn, o_nen, o_eql, o_nel, o_eqll, o_nell, o_nenl, o_nenll, o_eqnl, o_eqnll, o_len, o_len0, o_lenD, o_drop, o_take, o_takez, arr10, arr01, arr0, arr210, arr012, arr120, arr201, o_rev, o_listOf, o_listOfT, o_tupOf, List.length_map, it_list, it_tup, it_rev, it_enum, it_zip, o_allb, o_all, o_any, o_anyb, o_sum, o_srt, o_inn, o_notin, o_innl, o_notinl, o_count, o_toInt, turnB, clauseB, clauseF, if_true, if_false, Bool.false_eq_true, Bool.not_true, Bool.not_false, List.nil_append]
    rw [patternBy, dl, List.map_map]; rfl
  · simp -implicitDefEqProofs only [ev_var, ev_vin, ev_mov, ev_ref, ev_int, ev_bl, ev_non, ev_str, ev_gint, ev_op, evs_nil, evs_cons, ev_and, ev_or, ev_not, ev_ite, ev_scal, ev_tall, ev_chn, ev_comp, ev_comp2, evc_nil, evc_one, bind_nm, bind_tp2, bind_tl2, bind_tp3, bind_tp4, evSs_nil, evSs_cons, evS_asg, evS_par2, evS_par3, evS_sub, evS_sub2, evS_augs, evS_ex, evS_ret, evS_retN, evS_iff, evS_pass, evS_for, evS_whl, ev_call, ev_callk, ev_app, ev_pop, ev_popi, noRef, isRef_var, isRef_vin, isRef_mov, isRef_int, isRef_bl, isRef_str, isRef_pop, isRef_not, isRef_scal, isRef_non, isRef_op, isRef_gint, isRef_and, isRef_or, isRef_ite, isRef_call, isRef_callk, isRef_app, isRef_popi, isRef_comp, isRef_comp2, isRef_tall, isRef_chn, isRef_ref, ev_callR, eva_nil, eva_ref, eva_e, fill_nil, fill_ref, fill_e, back_nil, back_ref, back_e, fin1, fin2, fin3, Option.isNone_some, Bool.false_and, aug_lst, augn, ix3_0, sx3_0, ix3_1, sx3_1, ix3_2, sx3_2, ix5_0, sx5_0, ix5_1, sx5_1, ix5_2, sx5_2, ix5_3, sx5_3, ix5_4, sx5_4, Option.isNone_none, Bool.and_self, Bool.true_and, Bool.and_true, setAt_eq, oD0, oDs, st0, sts, wipe0, wipes, Option.map_some, Option.bind_some, cont_nx, cont_rt, cond_t, cond_f, cond_bl, not_bl, tst_bl, scal_int, scal_bl, scal_str, scal_non, valO_rt, valO_nx, wipeO_nx, wipeO_rt, wipeC_some, wipeF_some, isL_lst, l0, l1, l2, l3, l4, l5, l6, l7, l8, l9, l10, l11, l12, l13, l14, l15, l16, l17, l18, l19, l20, l21, l22, l23, l24, l25, l26, l27, l28, l29, l30, l31, l32, l33, l34, l35, l36, l37, l38, l39, l40, l41, l42, l43, l44, l45, l46, l47, l48, l49, l50, l51, l52, l53, l54, l55, l56, l57, l58, l59, l60, l61, l62, l63, l64, l65, l66, l67, l68, l69, l99, l100, l101, l131, l1000, l1001, l7919, l10007, l27183, l48271, l62089, l69621, l1000003, l1140671, l27644437, l32416187, l1103515245, l2147483587, l2147483629, l2147483647, l1000000000000000000, o_lst0, o_lst1, o_lst2, o_lst3, o_lst4, o_lst5, o_lst6, o_lst7, o_lst8, o_lst9, o_lst10, o_lst11, o_lst12, o_tup2, o_tup3, o_addn, o_neg1, o_ltn, o_len', o_gtn, o_gen, o_eqn, o_nen, o_eql, o_nel, o_eqll, o_nell, o_nenl, o_nenll, o_eqnl, o_eqnll, o_len, o_len0, o_lenD, o_drop, o_take, o_takez, arr10, arr01, arr0, arr210, arr012, arr120, arr201, o_rev, o_listOf, o_listOfT, o_tupOf, List.length_map, it_list, it_tup, it_rev, it_enum, it_zip, o_allb, o_all, o_any, o_anyb, o_sum, o_srt, o_inn, o_notin, o_innl, o_notinl, o_count, o_toInt, turnB, clauseB, clauseF, if_true, if_false, Bool.false_eq_true, Bool.not_true, Bool.not_false, o_indexm (sortN_mem.mpr hx)]
end PL

namespace PL
open PySem OH
/-! ### lots of places -/
def nextN (lot : List Nat) : Nat := match lot.getLast? with | none => 0 | some x => x + 1
def moreLots (n : Nat) (lot : List Nat) : List (List Nat) := (List.range' (nextN lot) (n - nextN lot)).map fun k => lot ++ [k]
def stepLots (n : Nat) (found : List (List Nat)) : List (List Nat) := found.flatMap (moreLots n)
def lotsSized (n s : Nat) : List (List Nat) := (List.range s).foldl (fun f _ => stepLots n f) [[]]
theorem moreLots_len {n : Nat} {lot : List Nat} : (moreLots n lot).length ≤ n := by
  unfold moreLots
  rw [List.length_map, List.length_range']; omega
theorem pow_lim {n t : Nat} (hn : n ≤ 8) (ht : t ≤ 8) : n ^ t ≤ LIM := by
  have h1 : n ^ t ≤ 8 ^ t := Nat.pow_le_pow_left hn t
  have h2 : 8 ^ t ≤ 8 ^ 8 := Nat.pow_le_pow_right (by omega) ht
  have h3 : (8 : Nat) ^ 8 = LIM := by decide
  omega
theorem foldl_flatMap {α β : Type} (g : α → List β) : ∀ (xs : List α) (acc : List β), xs.foldl (fun a x => a ++ g x) acc = acc ++ xs.flatMap g
  | [], acc => by simp
  | x :: xs, acc => by rw [List.foldl_cons, foldl_flatMap g xs, List.flatMap_cons, List.append_assoc]
theorem nextN_le {n : Nat} {lot : List Nat} (h : ∀ x ∈ lot, x < n) : nextN lot ≤ n := by
  unfold nextN
  cases e : lot.getLast? with
  | none => exact Nat.zero_le _
  | some x => exact h x (List.mem_of_getLast? e)
def LotsOk (n : Nat) (found : List (List Nat)) (t : Nat) : Prop := ∀ lot ∈ found, lot.length = t ∧ ∀ x ∈ lot, x < n
theorem stepLots_ok {n t : Nat} {found : List (List Nat)} (h : LotsOk n found t) : LotsOk n (stepLots n found) (t + 1) := by
  intro lot hl
  unfold stepLots at hl
  obtain ⟨l0, h0, hl⟩ := List.mem_flatMap.mp hl
  unfold moreLots at hl
  obtain ⟨k, hk, rfl⟩ := List.mem_map.mp hl
  obtain ⟨h1, h2⟩ := h l0 h0
  have hk' := List.mem_range'_1.mp hk
  refine ⟨by simp [h1], fun x hx => ?_⟩
  rcases List.mem_append.mp hx with hx | hx
  · exact h2 x hx
  · rw [List.mem_singleton.mp hx]; omega
theorem flatMap_len {α β : Type} {g : α → List β} {m : Nat} : ∀ {xs : List α}, (∀ x ∈ xs, (g x).length ≤ m) → (xs.flatMap g).length ≤ xs.length * m
  | [], _ => by simp
  | x :: xs, h => by
    rw [List.flatMap_cons, List.length_append, List.length_cons, Nat.succ_mul]
    have := flatMap_len (xs := xs) fun y hy => h y (List.mem_cons_of_mem _ hy)
    have := h x List.mem_cons_self
    omega
theorem lots_fold {n : Nat} : ∀ (m : Nat), LotsOk n ((List.range m).foldl (fun f _ => stepLots n f) [[]]) m ∧ ((List.range m).foldl (fun f _ => stepLots n f) [[]]).length ≤ n ^ m
  | 0 => ⟨fun lot h => by simp at h; simp [h], by simp⟩
  | m + 1 => by
    obtain ⟨a, b⟩ := lots_fold m
    rw [List.range_succ, List.foldl_append]
    refine ⟨stepLots_ok a, ?_⟩
    show (stepLots n _).length ≤ _
    refine Nat.le_trans (flatMap_len fun x _ => moreLots_len) ?_
    rw [Nat.pow_succ]
    exact Nat.mul_le_mul_right n b
theorem lots_ok {n s : Nat} : LotsOk n (lotsSized n s) s := (lots_fold s).1
theorem v_lots_lots_sized {k n s : Nat} (hn : n ≤ 8) (hs : s ≤ 8) : valC (callD P (k + 1)) 7 [dn n, dn s] = some (dll (lotsSized n s)) := by
  rw [vc (F := f7) rfl rfl]
  simp -implicitDefEqProofs only [f7, startD, List.map_cons, List.map_nil, List.length_cons, List.length_nil, List.replicate, List.cons_append, List.nil_append, Nat.sub_self, Nat.sub_zero, Nat.zero_add, Nat.reduceAdd, Nat.reduceSub, ev_var, ev_vin, ev_mov, ev_ref, ev_int, ev_bl, ev_non, ev_str, ev_gint, ev_op, evs_nil, evs_cons, ev_and, ev_or, ev_not, ev_ite, ev_scal, ev_tall, ev_chn, ev_comp, ev_comp2, evc_nil, evc_one, bind_nm, bind_tp2, bind_tl2, bind_tp3, bind_tp4, evSs_nil, evSs_cons, evS_asg, evS_par2, evS_par3, evS_sub, evS_sub2, evS_augs, evS_ex, evS_ret, evS_retN, evS_iff, evS_pass, evS_for, evS_whl, ev_call, ev_callk, ev_app, ev_pop, ev_popi, noRef, isRef_var, isRef_vin, isRef_mov, isRef_int, isRef_bl, isRef_str, isRef_pop, isRef_not, isRef_scal, isRef_non, isRef_op, isRef_gint, isRef_and, isRef_or, isRef_ite, isRef_call, isRef_callk, isRef_app, isRef_popi, isRef_comp, isRef_comp2, isRef_tall, isRef_chn, isRef_ref, ev_callR, eva_nil, eva_ref, eva_e, fill_nil, fill_ref, fill_e, back_nil, back_ref, back_e, fin1, fin2, fin3, Option.isNone_some, Bool.false_and, aug_lst, augn, ix3_0, sx3_0, ix3_1, sx3_1, ix3_2, sx3_2, ix5_0, sx5_0, ix5_1, sx5_1, ix5_2, sx5_2, ix5_3, sx5_3, ix5_4, sx5_4, Option.isNone_none, Bool.and_self, Bool.true_and, Bool.and_true, setAt_eq, oD0, oDs, st0, sts, wipe0, wipes, Option.map_some, Option.bind_some, cont_nx, cont_rt, cond_t, cond_f, cond_bl, not_bl, tst_bl, scal_int, scal_bl, scal_str, scal_non, valO_rt, valO_nx, wipeO_nx, wipeO_rt, wipeC_some, wipeF_some, isL_lst, l0, l1, l2, l3, l4, l5, l6, l7, l8, l9, l10, l11, l12, l13, l14, l15, l16, l17, l18, l19, l20, l21, l22, l23, l24, l25, l26, l27, l28, l29, l30, l31, l32, l33, l34, l35, l36, l37, l38, l39, l40, l41, l42, l43, l44, l45, l46, l47, l48, l49, l50, l51, l52, l53, l54, l55, l56, l57, l58, l59, l60, l61, l62, l63, l64, l65, l66, l67, l68, l69, l99, l100, l101, l131, l1000, l1001, l7919, l10007, l27183, l48271, l62089, l69621, l1000003, l1140671, l27644437, l32416187, l1103515245, l2147483587, l2147483629, l2147483647, l1000000000000000000, o_lst0, o_lst1, o_lst2, o_lst3, o_lst4, o_lst5, o_lst6, o_lst7, o_lst8, o_lst9, o_lst10, o_lst11, o_lst12, o_tup2, o_tup3, o_addn, o_neg1, o_ltn, o_len', o_gtn, o_gen, o_eqn, o_nen, o_eql, o_nel, o_eqll, o_nell, o_nenl, o_nenll, o_eqnl, o_eqnll, o_len, o_len0, o_lenD, o_drop, o_take, o_takez, arr10, arr01, arr0, arr210, arr012, arr120, arr201, o_rev, o_listOf, o_listOfT, o_tupOf, List.length_map, it_list, it_tup, it_rev, it_enum, it_zip, o_allb, o_all, o_any, o_anyb, o_sum, o_srt, o_inn, o_notin, o_innl, o_notinl, o_count, o_toInt, turnB, clauseB, clauseF, if_true, if_false, Bool.false_eq_true, Bool.not_true, Bool.not_false, it_r1 (show s ≤ LIM by simp -implicitDefEqProofs only [LIM]; omega)]
  rw [forD_go (σ := List (List Nat)) (fun found => [some (dn n), some (dn s), some (dll found), none, none, none, none]) (fun f _ => stepLots n f)
    (fun m found => LotsOk n found m ∧ found.length ≤ n ^ m) [[]] rfl ⟨fun lot h => by simp at h; simp [h], by simp⟩ (fun m found x hx I => ?_) (fun found => rfl)]
  · simp -implicitDefEqProofs only [ev_var, ev_vin, ev_mov, ev_ref, ev_int, ev_bl, ev_non, ev_str, ev_gint, ev_op, evs_nil, evs_cons, ev_and, ev_or, ev_not, ev_ite, ev_scal, ev_tall, ev_chn, ev_comp, ev_comp2, evc_nil, evc_one, bind_nm, bind_tp2, bind_tl2, bind_tp3, bind_tp4, evSs_nil, evSs_cons, evS_asg, evS_par2, evS_par3, evS_sub, evS_sub2, evS_augs, evS_ex, evS_ret, evS_retN, evS_iff, evS_pass, evS_for, evS_whl, ev_call, ev_callk, ev_app, ev_pop, ev_popi, noRef, isRef_var, isRef_vin, isRef_mov, isRef_int, isRef_bl, isRef_str, isRef_pop, isRef_not, isRef_scal, isRef_non, isRef_op, isRef_gint, isRef_and, isRef_or, isRef_ite, isRef_call, isRef_callk, isRef_app, isRef_popi, isRef_comp, isRef_comp2, isRef_tall, isRef_chn, isRef_ref, ev_callR, eva_nil, eva_ref, eva_e, fill_nil, fill_ref, fill_e, back_nil, back_ref, back_e, fin1, fin2, fin3, Option.isNone_some, Bool.false_and, aug_lst, augn, ix3_0, sx3_0, ix3_1, sx3_1, ix3_2, sx3_2, ix5_0, sx5_0, ix5_1, sx5_1, ix5_2, sx5_2, ix5_3, sx5_3, ix5_4, sx5_4, Option.isNone_none, Bool.and_self, Bool.true_and, Bool.and_true, setAt_eq, oD0, oDs, st0, sts, wipe0, wipes, Option.map_some, Option.bind_some, cont_nx, cont_rt, cond_t, cond_f, cond_bl, not_bl, tst_bl, scal_int, scal_bl, scal_str, scal_non, valO_rt, valO_nx, wipeO_nx, wipeO_rt, wipeC_some, wipeF_some, isL_lst, l0, l1, l2, l3, l4, l5, l6, l7, l8, l9, l10, l11, l12, l13, l14, l15, l16, l17, l18, l19, l20, l21, l22, l23, l24, l25, l26, l27, l28, l29, l30, l31, l32, l33, l34, l35, l36, l37, l38, l39, l40, l41, l42, l43, l44, l45, l46, l47, l48, l49, l50, l51, l52, l53, l54, l55, l56, l57, l58, l59, l60, l61, l62, l63, l64, l65, l66, l67, l68, l69, l99, l100, l101, l131, l1000, l1001, l7919, l10007, l27183, l48271, l62089, l69621, l1000003, l1140671, l27644437, l32416187, l1103515245, l2147483587, l2147483629, l2147483647, l1000000000000000000, o_lst0, o_lst1, o_lst2, o_lst3, o_lst4, o_lst5, o_lst6, o_lst7, o_lst8, o_lst9, o_lst10, o_lst11, o_lst12, o_tup2, o_tup3, o_addn, o_neg1, o_ltn, o_len', o_gtn, o_gen, o_eqn, o_nen, o_eql, o_nel, o_eqll, o_nell, o_nenl, o_nenll, o_eqnl, o_eqnll, o_len, o_len0, o_lenD, o_drop, o_take, o_takez, arr10, arr01, arr0, arr210, arr012, arr120, arr201, o_rev, o_listOf, o_listOfT, o_tupOf, List.length_map, it_list, it_tup, it_rev, it_enum, it_zip, o_allb, o_all, o_any, o_anyb, o_sum, o_srt, o_inn, o_notin, o_innl, o_notinl, o_count, o_toInt, turnB, clauseB, clauseF, if_true, if_false, Bool.false_eq_true, Bool.not_true, Bool.not_false, tall_ll (Nat.le_refl 2)]; rfl
  · have hm : m < s := by simpa using (List.getElem?_eq_some_iff.mp hx).1
    have hlim := pow_lim (t := m + 1) hn (by omega)
    rw [Nat.pow_succ] at hlim
    have hmul : found.length * n ≤ n ^ m * n := Nat.mul_le_mul_right n I.2
    refine ⟨?_, stepLots_ok I.1, ?_⟩
    · simp -implicitDefEqProofs only [ev_var, ev_vin, ev_mov, ev_ref, ev_int, ev_bl, ev_non, ev_str, ev_gint, ev_op, evs_nil, evs_cons, ev_and, ev_or, ev_not, ev_ite, ev_scal, ev_tall, ev_chn, ev_comp, ev_comp2, evc_nil, evc_one, bind_nm, bind_tp2, bind_tl2, bind_tp3, bind_tp4, evSs_nil, evSs_cons, evS_asg, evS_par2, evS_par3, evS_sub, evS_sub2, evS_augs, evS_ex, evS_ret, evS_retN, evS_iff, evS_pass, evS_for, evS_whl, ev_call, ev_callk, ev_app, ev_pop, ev_popi, noRef, isRef_var, isRef_vin, isRef_mov, isRef_int, isRef_bl, isRef_str, isRef_pop, isRef_not, isRef_scal, isRef_non, isRef_op, isRef_gint, isRef_and, isRef_or, isRef_ite, isRef_call, isRef_callk, isRef_app, isRef_popi, isRef_comp, isRef_comp2, isRef_tall, isRef_chn, isRef_ref, ev_callR, eva_nil, eva_ref, eva_e, fill_nil, fill_ref, fill_e, back_nil, back_ref, back_e, fin1, fin2, fin3, Option.isNone_some, Bool.false_and, aug_lst, augn, ix3_0, sx3_0, ix3_1, sx3_1, ix3_2, sx3_2, ix5_0, sx5_0, ix5_1, sx5_1, ix5_2, sx5_2, ix5_3, sx5_3, ix5_4, sx5_4, Option.isNone_none, Bool.and_self, Bool.true_and, Bool.and_true, setAt_eq, oD0, oDs, st0, sts, wipe0, wipes, Option.map_some, Option.bind_some, cont_nx, cont_rt, cond_t, cond_f, cond_bl, not_bl, tst_bl, scal_int, scal_bl, scal_str, scal_non, valO_rt, valO_nx, wipeO_nx, wipeO_rt, wipeC_some, wipeF_some, isL_lst, l0, l1, l2, l3, l4, l5, l6, l7, l8, l9, l10, l11, l12, l13, l14, l15, l16, l17, l18, l19, l20, l21, l22, l23, l24, l25, l26, l27, l28, l29, l30, l31, l32, l33, l34, l35, l36, l37, l38, l39, l40, l41, l42, l43, l44, l45, l46, l47, l48, l49, l50, l51, l52, l53, l54, l55, l56, l57, l58, l59, l60, l61, l62, l63, l64, l65, l66, l67, l68, l69, l99, l100, l101, l131, l1000, l1001, l7919, l10007, l27183, l48271, l62089, l69621, l1000003, l1140671, l27644437, l32416187, l1103515245, l2147483587, l2147483629, l2147483647, l1000000000000000000, o_lst0, o_lst1, o_lst2, o_lst3, o_lst4, o_lst5, o_lst6, o_lst7, o_lst8, o_lst9, o_lst10, o_lst11, o_lst12, o_tup2, o_tup3, o_addn, o_neg1, o_ltn, o_len', o_gtn, o_gen, o_eqn, o_nen, o_eql, o_nel, o_eqll, o_nell, o_nenl, o_nenll, o_eqnl, o_eqnll, o_len, o_len0, o_lenD, o_drop, o_take, o_takez, arr10, arr01, arr0, arr210, arr012, arr120, arr201, o_rev, o_listOf, o_listOfT, o_tupOf, List.length_map, it_list, it_tup, it_rev, it_enum, it_zip, o_allb, o_all, o_any, o_anyb, o_sum, o_srt, o_inn, o_notin, o_innl, o_notinl, o_count, o_toInt, turnB, clauseB, clauseF, if_true, if_false, Bool.false_eq_true, Bool.not_true, Bool.not_false]
      rw [forD_go (σ := List (List Nat)) (fun longer => [some (dn n), some (dn s), some (dll found), some (dn x), some (dll longer), none, none]) (fun a lot => a ++ moreLots n lot)
        (fun j longer => longer.length ≤ j * n) [] rfl (by simp) (fun j longer lot hl J => ?_) (fun longer => rfl)]
      · simp -implicitDefEqProofs only [ev_var, ev_vin, ev_mov, ev_ref, ev_int, ev_bl, ev_non, ev_str, ev_gint, ev_op, evs_nil, evs_cons, ev_and, ev_or, ev_not, ev_ite, ev_scal, ev_tall, ev_chn, ev_comp, ev_comp2, evc_nil, evc_one, bind_nm, bind_tp2, bind_tl2, bind_tp3, bind_tp4, evSs_nil, evSs_cons, evS_asg, evS_par2, evS_par3, evS_sub, evS_sub2, evS_augs, evS_ex, evS_ret, evS_retN, evS_iff, evS_pass, evS_for, evS_whl, ev_call, ev_callk, ev_app, ev_pop, ev_popi, noRef, isRef_var, isRef_vin, isRef_mov, isRef_int, isRef_bl, isRef_str, isRef_pop, isRef_not, isRef_scal, isRef_non, isRef_op, isRef_gint, isRef_and, isRef_or, isRef_ite, isRef_call, isRef_callk, isRef_app, isRef_popi, isRef_comp, isRef_comp2, isRef_tall, isRef_chn, isRef_ref, ev_callR, eva_nil, eva_ref, eva_e, fill_nil, fill_ref, fill_e, back_nil, back_ref, back_e, fin1, fin2, fin3, Option.isNone_some, Bool.false_and, aug_lst, augn, ix3_0, sx3_0, ix3_1, sx3_1, ix3_2, sx3_2, ix5_0, sx5_0, ix5_1, sx5_1, ix5_2, sx5_2, ix5_3, sx5_3, ix5_4, sx5_4, Option.isNone_none, Bool.and_self, Bool.true_and, Bool.and_true, setAt_eq, oD0, oDs, st0, sts, wipe0, wipes, Option.map_some, Option.bind_some, cont_nx, cont_rt, cond_t, cond_f, cond_bl, not_bl, tst_bl, scal_int, scal_bl, scal_str, scal_non, valO_rt, valO_nx, wipeO_nx, wipeO_rt, wipeC_some, wipeF_some, isL_lst, l0, l1, l2, l3, l4, l5, l6, l7, l8, l9, l10, l11, l12, l13, l14, l15, l16, l17, l18, l19, l20, l21, l22, l23, l24, l25, l26, l27, l28, l29, l30, l31, l32, l33, l34, l35, l36, l37, l38, l39, l40, l41, l42, l43, l44, l45, l46, l47, l48, l49, l50, l51, l52, l53, l54, l55, l56, l57, l58, l59, l60, l61, l62, l63, l64, l65, l66, l67, l68, l69, l99, l100, l101, l131, l1000, l1001, l7919, l10007, l27183, l48271, l62089, l69621, l1000003, l1140671, l27644437, l32416187, l1103515245, l2147483587, l2147483629, l2147483647, l1000000000000000000, o_lst0, o_lst1, o_lst2, o_lst3, o_lst4, o_lst5, o_lst6, o_lst7, o_lst8, o_lst9, o_lst10, o_lst11, o_lst12, o_tup2, o_tup3, o_addn, o_neg1, o_ltn, o_len', o_gtn, o_gen, o_eqn, o_nen, o_eql, o_nel, o_eqll, o_nell, o_nenl, o_nenll, o_eqnl, o_eqnll, o_len, o_len0, o_lenD, o_drop, o_take, o_takez, arr10, arr01, arr0, arr210, arr012, arr120, arr201, o_rev, o_listOf, o_listOfT, o_tupOf, List.length_map, it_list, it_tup, it_rev, it_enum, it_zip, o_allb, o_all, o_any, o_anyb, o_sum, o_srt, o_inn, o_notin, o_innl, o_notinl, o_count, o_toInt, turnB, clauseB, clauseF, if_true, if_false, Bool.false_eq_true, Bool.not_true, Bool.not_false, foldl_flatMap, List.nil_append]; rfl
      · obtain ⟨l1, l2⟩ := I.1 lot (List.mem_of_getElem? hl)
        have hj : j < found.length := (List.getElem?_eq_some_iff.mp hl).1
        have hj2 : (j + 1) * n ≤ found.length * n := Nat.mul_le_mul_right n hj
        rw [Nat.succ_mul] at hj2 ⊢
        have lm := moreLots_len (n := n) (lot := lot)
        refine ⟨?_, by rw [List.length_append]; omega⟩
        have nle := nextN_le l2
        have hne : (!lot.isEmpty) = true ∧ (∃ y, lot.getLast? = some y ∧ nextN lot = y + 1) ∨ (!lot.isEmpty) = false ∧ nextN lot = 0 := by
          cases e : lot.getLast? with
          | none =>
            have : lot = [] := by simpa using e
            subst this; right; exact ⟨rfl, rfl⟩
          | some y =>
            left
            refine ⟨?_, y, rfl, by unfold nextN; rw [e]⟩
            cases lot with
            | nil => cases e
            | cons a l => rfl
        have fin : ∀ (ρ : REnv), wipeD ρ [6] = [some (dn n), some (dn s), some (dll found), some (dn x), some (dll longer), some (dl lot), none] → compD (clauseB (callD P k) (.nm 6) [] (.op .add [.vin 5, .op .lst [.scal (.var 6)]])) [6] ((List.range' (nextN lot) (n - nextN lot)).map dn) ρ [] = some ((moreLots n lot).map dl, [some (dn n), some (dn s), some (dll found), some (dn x), some (dll longer), some (dl lot), none]) := fun ρ hρ => by
          rw [compD_all (fun v => dl (lot ++ [v])) hρ (fun v hv => ?_) (by simp only [List.length_nil, List.length_range', LIM]; omega)]
          · rw [List.nil_append, moreLots, List.map_map]; rfl
          · simp -implicitDefEqProofs only [ev_var, ev_vin, ev_mov, ev_ref, ev_int, ev_bl, ev_non, ev_str, ev_gint, ev_op, evs_nil, evs_cons, ev_and, ev_or, ev_not, ev_ite, ev_scal, ev_tall, ev_chn, ev_comp, ev_comp2, evc_nil, evc_one, bind_nm, bind_tp2, bind_tl2, bind_tp3, bind_tp4, evSs_nil, evSs_cons, evS_asg, evS_par2, evS_par3, evS_sub, evS_sub2, evS_augs, evS_ex, evS_ret, evS_retN, evS_iff, evS_pass, evS_for, evS_whl, ev_call, ev_callk, ev_app, ev_pop, ev_popi, noRef, isRef_var, isRef_vin, isRef_mov, isRef_int, isRef_bl, isRef_str, isRef_pop, isRef_not, isRef_scal, isRef_non, isRef_op, isRef_gint, isRef_and, isRef_or, isRef_ite, isRef_call, isRef_callk, isRef_app, isRef_popi, isRef_comp, isRef_comp2, isRef_tall, isRef_chn, isRef_ref, ev_callR, eva_nil, eva_ref, eva_e, fill_nil, fill_ref, fill_e, back_nil, back_ref, back_e, fin1, fin2, fin3, Option.isNone_some, Bool.false_and, aug_lst, augn, ix3_0, sx3_0, ix3_1, sx3_1, ix3_2, sx3_2, ix5_0, sx5_0, ix5_1, sx5_1, ix5_2, sx5_2, ix5_3, sx5_3, ix5_4, sx5_4, Option.isNone_none, Bool.and_self, Bool.true_and, Bool.and_true, setAt_eq, oD0, oDs, st0, sts, wipe0, wipes, Option.map_some, Option.bind_some, cont_nx, cont_rt, cond_t, cond_f, cond_bl, not_bl, tst_bl, scal_int, scal_bl, scal_str, scal_non, valO_rt, valO_nx, wipeO_nx, wipeO_rt, wipeC_some, wipeF_some, isL_lst, l0, l1, l2, l3, l4, l5, l6, l7, l8, l9, l10, l11, l12, l13, l14, l15, l16, l17, l18, l19, l20, l21, l22, l23, l24, l25, l26, l27, l28, l29, l30, l31, l32, l33, l34, l35, l36, l37, l38, l39, l40, l41, l42, l43, l44, l45, l46, l47, l48, l49, l50, l51, l52, l53, l54, l55, l56, l57, l58, l59, l60, l61, l62, l63, l64, l65, l66, l67, l68, l69, l99, l100, l101, l131, l1000, l1001, l7919, l10007, l27183, l48271, l62089, l69621, l1000003, l1140671, l27644437, l32416187, l1103515245, l2147483587, l2147483629, l2147483647, l1000000000000000000, o_lst0, o_lst1, o_lst2, o_lst3, o_lst4, o_lst5, o_lst6, o_lst7, o_lst8, o_lst9, o_lst10, o_lst11, o_lst12, o_tup2, o_tup3, o_addn, o_neg1, o_ltn, o_len', o_gtn, o_gen, o_eqn, o_nen, o_eql, o_nel, o_eqll, o_nell, o_nenl, o_nenll, o_eqnl, o_eqnll, o_len, o_len0, o_lenD, o_drop, o_take, o_takez, arr10, arr01, arr0, arr210, arr012, arr120, arr201, o_rev, o_listOf, o_listOfT, o_tupOf, List.length_map, it_list, it_tup, it_rev, it_enum, it_zip, o_allb, o_all, o_any, o_anyb, o_sum, o_srt, o_inn, o_notin, o_innl, o_notinl, o_count, o_toInt, turnB, clauseB, clauseF, if_true, if_false, Bool.false_eq_true, Bool.not_true, Bool.not_false]
            rw [o_cat1 (f := dn) (by simp only [LIM]; omega)]
            simp -implicitDefEqProofs only [ev_var, ev_vin, ev_mov, ev_ref, ev_int, ev_bl, ev_non, ev_str, ev_gint, ev_op, evs_nil, evs_cons, ev_and, ev_or, ev_not, ev_ite, ev_scal, ev_tall, ev_chn, ev_comp, ev_comp2, evc_nil, evc_one, bind_nm, bind_tp2, bind_tl2, bind_tp3, bind_tp4, evSs_nil, evSs_cons, evS_asg, evS_par2, evS_par3, evS_sub, evS_sub2, evS_augs, evS_ex, evS_ret, evS_retN, evS_iff, evS_pass, evS_for, evS_whl, ev_call, ev_callk, ev_app, ev_pop, ev_popi, noRef, isRef_var, isRef_vin, isRef_mov, isRef_int, isRef_bl, isRef_str, isRef_pop, isRef_not, isRef_scal, isRef_non, isRef_op, isRef_gint, isRef_and, isRef_or, isRef_ite, isRef_call, isRef_callk, isRef_app, isRef_popi, isRef_comp, isRef_comp2, isRef_tall, isRef_chn, isRef_ref, ev_callR, eva_nil, eva_ref, eva_e, fill_nil, fill_ref, fill_e, back_nil, back_ref, back_e, fin1, fin2, fin3, Option.isNone_some, Bool.false_and, aug_lst, augn, ix3_0, sx3_0, ix3_1, sx3_1, ix3_2, sx3_2, ix5_0, sx5_0, ix5_1, sx5_1, ix5_2, sx5_2, ix5_3, sx5_3, ix5_4, sx5_4, Option.isNone_none, Bool.and_self, Bool.true_and, Bool.and_true, setAt_eq, oD0, oDs, st0, sts, wipe0, wipes, Option.map_some, Option.bind_some, cont_nx, cont_rt, cond_t, cond_f, cond_bl, not_bl, tst_bl, scal_int, scal_bl, scal_str, scal_non, valO_rt, valO_nx, wipeO_nx, wipeO_rt, wipeC_some, wipeF_some, isL_lst, l0, l1, l2, l3, l4, l5, l6, l7, l8, l9, l10, l11, l12, l13, l14, l15, l16, l17, l18, l19, l20, l21, l22, l23, l24, l25, l26, l27, l28, l29, l30, l31, l32, l33, l34, l35, l36, l37, l38, l39, l40, l41, l42, l43, l44, l45, l46, l47, l48, l49, l50, l51, l52, l53, l54, l55, l56, l57, l58, l59, l60, l61, l62, l63, l64, l65, l66, l67, l68, l69, l99, l100, l101, l131, l1000, l1001, l7919, l10007, l27183, l48271, l62089, l69621, l1000003, l1140671, l27644437, l32416187, l1103515245, l2147483587, l2147483629, l2147483647, l1000000000000000000, o_lst0, o_lst1, o_lst2, o_lst3, o_lst4, o_lst5, o_lst6, o_lst7, o_lst8, o_lst9, o_lst10, o_lst11, o_lst12, o_tup2, o_tup3, o_addn, o_neg1, o_ltn, o_len', o_gtn, o_gen, o_eqn, o_nen, o_eql, o_nel, o_eqll, o_nell, o_nenl, o_nenll, o_eqnl, o_eqnll, o_len, o_len0, o_lenD, o_drop, o_take, o_takez, arr10, arr01, arr0, arr210, arr012, arr120, arr201, o_rev, o_listOf, o_listOfT, o_tupOf, List.length_map, it_list, it_tup, it_rev, it_enum, it_zip, o_allb, o_all, o_any, o_anyb, o_sum, o_srt, o_inn, o_notin, o_innl, o_notinl, o_count, o_toInt, turnB, clauseB, clauseF, if_true, if_false, Bool.false_eq_true, Bool.not_true, Bool.not_false]
        rcases hne with ⟨c, y, ey, en⟩ | ⟨c, en⟩
        · simp -implicitDefEqProofs only [ev_var, ev_vin, ev_mov, ev_ref, ev_int, ev_bl, ev_non, ev_str, ev_gint, ev_op, evs_nil, evs_cons, ev_and, ev_or, ev_not, ev_ite, ev_scal, ev_tall, ev_chn, ev_comp, ev_comp2, evc_nil, evc_one, bind_nm, bind_tp2, bind_tl2, bind_tp3, bind_tp4, evSs_nil, evSs_cons, evS_asg, evS_par2, evS_par3, evS_sub, evS_sub2, evS_augs, evS_ex, evS_ret, evS_retN, evS_iff, evS_pass, evS_for, evS_whl, ev_call, ev_callk, ev_app, ev_pop, ev_popi, noRef, isRef_var, isRef_vin, isRef_mov, isRef_int, isRef_bl, isRef_str, isRef_pop, isRef_not, isRef_scal, isRef_non, isRef_op, isRef_gint, isRef_and, isRef_or, isRef_ite, isRef_call, isRef_callk, isRef_app, isRef_popi, isRef_comp, isRef_comp2, isRef_tall, isRef_chn, isRef_ref, ev_callR, eva_nil, eva_ref, eva_e, fill_nil, fill_ref, fill_e, back_nil, back_ref, back_e, fin1, fin2, fin3, Option.isNone_some, Bool.false_and, aug_lst, augn, ix3_0, sx3_0, ix3_1, sx3_1, ix3_2, sx3_2, ix5_0, sx5_0, ix5_1, sx5_1, ix5_2, sx5_2, ix5_3, sx5_3, ix5_4, sx5_4, Option.isNone_none, Bool.and_self, Bool.true_and, Bool.and_true, setAt_eq, oD0, oDs, st0, sts, wipe0, wipes, Option.map_some, Option.bind_some, cont_nx, cont_rt, cond_t, cond_f, cond_bl, not_bl, tst_bl, scal_int, scal_bl, scal_str, scal_non, valO_rt, valO_nx, wipeO_nx, wipeO_rt, wipeC_some, wipeF_some, isL_lst, l0, l1, l2, l3, l4, l5, l6, l7, l8, l9, l10, l11, l12, l13, l14, l15, l16, l17, l18, l19, l20, l21, l22, l23, l24, l25, l26, l27, l28, l29, l30, l31, l32, l33, l34, l35, l36, l37, l38, l39, l40, l41, l42, l43, l44, l45, l46, l47, l48, l49, l50, l51, l52, l53, l54, l55, l56, l57, l58, l59, l60, l61, l62, l63, l64, l65, l66, l67, l68, l69, l99, l100, l101, l131, l1000, l1001, l7919, l10007, l27183, l48271, l62089, l69621, l1000003, l1140671, l27644437, l32416187, l1103515245, l2147483587, l2147483629, l2147483647, l1000000000000000000, o_lst0, o_lst1, o_lst2, o_lst3, o_lst4, o_lst5, o_lst6, o_lst7, o_lst8, o_lst9, o_lst10, o_lst11, o_lst12, o_tup2, o_tup3, o_addn, o_neg1, o_ltn, o_len', o_gtn, o_gen, o_eqn, o_nen, o_eql, o_nel, o_eqll, o_nell, o_nenl, o_nenll, o_eqnl, o_eqnll, o_len, o_len0, o_lenD, o_drop, o_take, o_takez, arr10, arr01, arr0, arr210, arr012, arr120, arr201, o_rev, o_listOf, o_listOfT, o_tupOf, List.length_map, it_list, it_tup, it_rev, it_enum, it_zip, o_allb, o_all, o_any, o_anyb, o_sum, o_srt, o_inn, o_notin, o_innl, o_notinl, o_count, o_toInt, turnB, clauseB, clauseF, if_true, if_false, Bool.false_eq_true, Bool.not_true, Bool.not_false, c, o_ixlast ey, ← en, it_r2 (show nextN lot ≤ LIM by simp -implicitDefEqProofs only [LIM]; omega) (show n ≤ LIM by simp -implicitDefEqProofs only [LIM]; omega)]
          rw [fin _ rfl]
          simp -implicitDefEqProofs only [ev_var, ev_vin, ev_mov, ev_ref, ev_int, ev_bl, ev_non, ev_str, ev_gint, ev_op, evs_nil, evs_cons, ev_and, ev_or, ev_not, ev_ite, ev_scal, ev_tall, ev_chn, ev_comp, ev_comp2, evc_nil, evc_one, bind_nm, bind_tp2, bind_tl2, bind_tp3, bind_tp4, evSs_nil, evSs_cons, evS_asg, evS_par2, evS_par3, evS_sub, evS_sub2, evS_augs, evS_ex, evS_ret, evS_retN, evS_iff, evS_pass, evS_for, evS_whl, ev_call, ev_callk, ev_app, ev_pop, ev_popi, noRef, isRef_var, isRef_vin, isRef_mov, isRef_int, isRef_bl, isRef_str, isRef_pop, isRef_not, isRef_scal, isRef_non, isRef_op, isRef_gint, isRef_and, isRef_or, isRef_ite, isRef_call, isRef_callk, isRef_app, isRef_popi, isRef_comp, isRef_comp2, isRef_tall, isRef_chn, isRef_ref, ev_callR, eva_nil, eva_ref, eva_e, fill_nil, fill_ref, fill_e, back_nil, back_ref, back_e, fin1, fin2, fin3, Option.isNone_some, Bool.false_and, aug_lst, augn, ix3_0, sx3_0, ix3_1, sx3_1, ix3_2, sx3_2, ix5_0, sx5_0, ix5_1, sx5_1, ix5_2, sx5_2, ix5_3, sx5_3, ix5_4, sx5_4, Option.isNone_none, Bool.and_self, Bool.true_and, Bool.and_true, setAt_eq, oD0, oDs, st0, sts, wipe0, wipes, Option.map_some, Option.bind_some, cont_nx, cont_rt, cond_t, cond_f, cond_bl, not_bl, tst_bl, scal_int, scal_bl, scal_str, scal_non, valO_rt, valO_nx, wipeO_nx, wipeO_rt, wipeC_some, wipeF_some, isL_lst, l0, l1, l2, l3, l4, l5, l6, l7, l8, l9, l10, l11, l12, l13, l14, l15, l16, l17, l18, l19, l20, l21, l22, l23, l24, l25, l26, l27, l28, l29, l30, l31, l32, l33, l34, l35, l36, l37, l38, l39, l40, l41, l42, l43, l44, l45, l46, l47, l48, l49, l50, l51, l52, l53, l54, l55, l56, l57, l58, l59, l60, l61, l62, l63, l64, l65, l66, l67, l68, l69, l99, l100, l101, l131, l1000, l1001, l7919, l10007, l27183, l48271, l62089, l69621, l1000003, l1140671, l27644437, l32416187, l1103515245, l2147483587, l2147483629, l2147483647, l1000000000000000000, o_lst0, o_lst1, o_lst2, o_lst3, o_lst4, o_lst5, o_lst6, o_lst7, o_lst8, o_lst9, o_lst10, o_lst11, o_lst12, o_tup2, o_tup3, o_addn, o_neg1, o_ltn, o_len', o_gtn, o_gen, o_eqn, o_nen, o_eql, o_nel, o_eqll, o_nell, o_nenl, o_nenll, o_eqnl, o_eqnll, o_len, o_len0, o_lenD, o_drop, o_take, o_takez, arr10, arr01, arr0, arr210, arr012, arr120, arr201, o_rev, o_listOf, o_listOfT, o_tupOf, List.length_map, it_list, it_tup, it_rev, it_enum, it_zip, o_allb, o_all, o_any, o_anyb, o_sum, o_srt, o_inn, o_notin, o_innl, o_notinl, o_count, o_toInt, turnB, clauseB, clauseF, if_true, if_false, Bool.false_eq_true, Bool.not_true, Bool.not_false, o_catf (f := dl) (show longer.length + (moreLots n lot).length ≤ LIM by omega)]
        · simp -implicitDefEqProofs only [ev_var, ev_vin, ev_mov, ev_ref, ev_int, ev_bl, ev_non, ev_str, ev_gint, ev_op, evs_nil, evs_cons, ev_and, ev_or, ev_not, ev_ite, ev_scal, ev_tall, ev_chn, ev_comp, ev_comp2, evc_nil, evc_one, bind_nm, bind_tp2, bind_tl2, bind_tp3, bind_tp4, evSs_nil, evSs_cons, evS_asg, evS_par2, evS_par3, evS_sub, evS_sub2, evS_augs, evS_ex, evS_ret, evS_retN, evS_iff, evS_pass, evS_for, evS_whl, ev_call, ev_callk, ev_app, ev_pop, ev_popi, noRef, isRef_var, isRef_vin, isRef_mov, isRef_int, isRef_bl, isRef_str, isRef_pop, isRef_not, isRef_scal, isRef_non, isRef_op, isRef_gint, isRef_and, isRef_or, isRef_ite, isRef_call, isRef_callk, isRef_app, isRef_popi, isRef_comp, isRef_comp2, isRef_tall, isRef_chn, isRef_ref, ev_callR, eva_nil, eva_ref, eva_e, fill_nil, fill_ref, fill_e, back_nil, back_ref, back_e, fin1, fin2, fin3, Option.isNone_some, Bool.false_and, aug_lst, augn, ix3_0, sx3_0, ix3_1, sx3_1, ix3_2, sx3_2, ix5_0, sx5_0, ix5_1, sx5_1, ix5_2, sx5_2, ix5_3, sx5_3, ix5_4, sx5_4, Option.isNone_none, Bool.and_self, Bool.true_and, Bool.and_true, setAt_eq, oD0, oDs, st0, sts, wipe0, wipes, Option.map_some, Option.bind_some, cont_nx, cont_rt, cond_t, cond_f, cond_bl, not_bl, tst_bl, scal_int, scal_bl, scal_str, scal_non, valO_rt, valO_nx, wipeO_nx, wipeO_rt, wipeC_some, wipeF_some, isL_lst, l0, l1, l2, l3, l4, l5, l6, l7, l8, l9, l10, l11, l12, l13, l14, l15, l16, l17, l18, l19, l20, l21, l22, l23, l24, l25, l26, l27, l28, l29, l30, l31, l32, l33, l34, l35, l36, l37, l38, l39, l40, l41, l42, l43, l44, l45, l46, l47, l48, l49, l50, l51, l52, l53, l54, l55, l56, l57, l58, l59, l60, l61, l62, l63, l64, l65, l66, l67, l68, l69, l99, l100, l101, l131, l1000, l1001, l7919, l10007, l27183, l48271, l62089, l69621, l1000003, l1140671, l27644437, l32416187, l1103515245, l2147483587, l2147483629, l2147483647, l1000000000000000000, o_lst0, o_lst1, o_lst2, o_lst3, o_lst4, o_lst5, o_lst6, o_lst7, o_lst8, o_lst9, o_lst10, o_lst11, o_lst12, o_tup2, o_tup3, o_addn, o_neg1, o_ltn, o_len', o_gtn, o_gen, o_eqn, o_nen, o_eql, o_nel, o_eqll, o_nell, o_nenl, o_nenll, o_eqnl, o_eqnll, o_len, o_len0, o_lenD, o_drop, o_take, o_takez, arr10, arr01, arr0, arr210, arr012, arr120, arr201, o_rev, o_listOf, o_listOfT, o_tupOf, List.length_map, it_list, it_tup, it_rev, it_enum, it_zip, o_allb, o_all, o_any, o_anyb, o_sum, o_srt, o_inn, o_notin, o_innl, o_notinl, o_count, o_toInt, turnB, clauseB, clauseF, if_true, if_false, Bool.false_eq_true, Bool.not_true, Bool.not_false, c, it_r2 (i := 0) (show 0 ≤ LIM by simp -implicitDefEqProofs only [LIM]; omega) (show n ≤ LIM by simp -implicitDefEqProofs only [LIM]; omega)]
          rw [en] at fin
          rw [fin _ rfl]
          simp -implicitDefEqProofs only [ev_var, ev_vin, ev_mov, ev_ref, ev_int, ev_bl, ev_non, ev_str, ev_gint, ev_op, evs_nil, evs_cons, ev_and, ev_or, ev_not, ev_ite, ev_scal, ev_tall, ev_chn, ev_comp, ev_comp2, evc_nil, evc_one, bind_nm, bind_tp2, bind_tl2, bind_tp3, bind_tp4, evSs_nil, evSs_cons, evS_asg, evS_par2, evS_par3, evS_sub, evS_sub2, evS_augs, evS_ex, evS_ret, evS_retN, evS_iff, evS_pass, evS_for, evS_whl, ev_call, ev_callk, ev_app, ev_pop, ev_popi, noRef, isRef_var, isRef_vin, isRef_mov, isRef_int, isRef_bl, isRef_str, isRef_pop, isRef_not, isRef_scal, isRef_non, isRef_op, isRef_gint, isRef_and, isRef_or, isRef_ite, isRef_call, isRef_callk, isRef_app, isRef_popi, isRef_comp, isRef_comp2, isRef_tall, isRef_chn, isRef_ref, ev_callR, eva_nil, eva_ref, eva_e, fill_nil, fill_ref, fill_e, back_nil, back_ref, back_e, fin1, fin2, fin3, Option.isNone_some, Bool.false_and, aug_lst, augn, ix3_0, sx3_0, ix3_1, sx3_1, ix3_2, sx3_2, ix5_0, sx5_0, ix5_1, sx5_1, ix5_2, sx5_2, ix5_3, sx5_3, ix5_4, sx5_4, Option.isNone_none, Bool.and_self, Bool.true_and, Bool.and_true, setAt_eq, oD0, oDs, st0, sts, wipe0, wipes, Option.map_some, Option.bind_some, cont_nx, cont_rt, cond_t, cond_f, cond_bl, not_bl, tst_bl, scal_int, scal_bl, scal_str, scal_non, valO_rt, valO_nx, wipeO_nx, wipeO_rt, wipeC_some, wipeF_some, isL_lst, l0, l1, l2, l3, l4, l5, l6, l7, l8, l9, l10, l11, l12, l13, l14, l15, l16, l17, l18, l19, l20, l21, l22, l23, l24, l25, l26, l27, l28, l29, l30, l31, l32, l33, l34, l35, l36, l37, l38, l39, l40, l41, l42, l43, l44, l45, l46, l47, l48, l49, l50, l51, l52, l53, l54, l55, l56, l57, l58, l59, l60, l61, l62, l63, l64, l65, l66, l67, l68, l69, l99, l100, l101, l131, l1000, l1001, l7919, l10007, l27183, l48271, l62089, l69621, l1000003, l1140671, l27644437, l32416187, l1103515245, l2147483587, l2147483629, l2147483647, l1000000000000000000, o_lst0, o_lst1, o_lst2, o_lst3, o_lst4, o_lst5, o_lst6, o_lst7, o_lst8, o_lst9, o_lst10, o_lst11, o_lst12, o_tup2, o_tup3, o_addn, o_neg1, o_ltn, o_len', o_gtn, o_gen, o_eqn, o_nen, o_eql, o_nel, o_eqll, o_nell, o_nenl, o_nenll, o_eqnl, o_eqnll, o_len, o_len0, o_lenD, o_drop, o_take, o_takez, arr10, arr01, arr0, arr210, arr012, arr120, arr201, o_rev, o_listOf, o_listOfT, o_tupOf, List.length_map, it_list, it_tup, it_rev, it_enum, it_zip, o_allb, o_all, o_any, o_anyb, o_sum, o_srt, o_inn, o_notin, o_innl, o_notinl, o_count, o_toInt, turnB, clauseB, clauseF, if_true, if_false, Bool.false_eq_true, Bool.not_true, Bool.not_false, o_catf (f := dl) (show longer.length + (moreLots n lot).length ≤ LIM by omega)]
    · refine Nat.le_trans (flatMap_len fun x _ => moreLots_len) ?_
      rw [Nat.pow_succ]
      exact hmul
theorem v_lots__law_lots_sized {k n s : Nat} (hn : n ≤ 8) (hs : s ≤ 8) : valC (callD P (k + 1)) 16 [dn n, dn s] = some (dll (lotsSized n s)) := by
  rw [vc (F := f16) rfl rfl]
  simp -implicitDefEqProofs only [f16, startD, List.map_cons, List.map_nil, List.length_cons, List.length_nil, List.replicate, List.cons_append, List.nil_append, Nat.sub_self, Nat.sub_zero, Nat.zero_add, Nat.reduceAdd, Nat.reduceSub, ev_var, ev_vin, ev_mov, ev_ref, ev_int, ev_bl, ev_non, ev_str, ev_gint, ev_op, evs_nil, evs_cons, ev_and, ev_or, ev_not, ev_ite, ev_scal, ev_tall, ev_chn, ev_comp, ev_comp2, evc_nil, evc_one, bind_nm, bind_tp2, bind_tl2, bind_tp3, bind_tp4, evSs_nil, evSs_cons, evS_asg, evS_par2, evS_par3, evS_sub, evS_sub2, evS_augs, evS_ex, evS_ret, evS_retN, evS_iff, evS_pass, evS_for, evS_whl, ev_call, ev_callk, ev_app, ev_pop, ev_popi, noRef, isRef_var, isRef_vin, isRef_mov, isRef_int, isRef_bl, isRef_str, isRef_pop, isRef_not, isRef_scal, isRef_non, isRef_op, isRef_gint, isRef_and, isRef_or, isRef_ite, isRef_call, isRef_callk, isRef_app, isRef_popi, isRef_comp, isRef_comp2, isRef_tall, isRef_chn, isRef_ref, ev_callR, eva_nil, eva_ref, eva_e, fill_nil, fill_ref, fill_e, back_nil, back_ref, back_e, fin1, fin2, fin3, Option.isNone_some, Bool.false_and, aug_lst, augn, ix3_0, sx3_0, ix3_1, sx3_1, ix3_2, sx3_2, ix5_0, sx5_0, ix5_1, sx5_1, ix5_2, sx5_2, ix5_3, sx5_3, ix5_4, sx5_4, Option.isNone_none, Bool.and_self, Bool.true_and, Bool.and_true, setAt_eq, oD0, oDs, st0, sts, wipe0, wipes, Option.map_some, Option.bind_some, cont_nx, cont_rt, cond_t, cond_f, cond_bl, not_bl, tst_bl, scal_int, scal_bl, scal_str, scal_non, valO_rt, valO_nx, wipeO_nx, wipeO_rt, wipeC_some, wipeF_some, isL_lst, l0, l1, l2, l3, l4, l5, l6, l7, l8, l9, l10, l11, l12, l13, l14, l15, l16, l17, l18, l19, l20, l21, l22, l23, l24, l25, l26, l27, l28, l29, l30, l31, l32, l33, l34, l35, l36, l37, l38, l39, l40, l41, l42, l43, l44, l45, l46, l47, l48, l49, l50, l51, l52, l53, l54, l55, l56, l57, l58, l59, l60, l61, l62, l63, l64, l65, l66, l67, l68, l69, l99, l100, l101, l131, l1000, l1001, l7919, l10007, l27183, l48271, l62089, l69621, l1000003, l1140671, l27644437, l32416187, l1103515245, l2147483587, l2147483629, l2147483647, l1000000000000000000, o_lst0, o_lst1, o_lst2, o_lst3, o_lst4, o_lst5, o_lst6, o_lst7, o_lst8, o_lst9, o_lst10, o_lst11, o_lst12, o_tup2, o_tup3, o_addn, o_neg1, o_ltn, o_len', o_gtn, o_gen, o_eqn, o_nen, o_eql, o_nel, o_eqll, o_nell, o_nenl, o_nenll, o_eqnl, o_eqnll, o_len, o_len0, o_lenD, o_drop, o_take, o_takez, arr10, arr01, arr0, arr210, arr012, arr120, arr201, o_rev, o_listOf, o_listOfT, o_tupOf, List.length_map, it_list, it_tup, it_rev, it_enum, it_zip, o_allb, o_all, o_any, o_anyb, o_sum, o_srt, o_inn, o_notin, o_innl, o_notinl, o_count, o_toInt, turnB, clauseB, clauseF, if_true, if_false, Bool.false_eq_true, Bool.not_true, Bool.not_false, it_r1 (show s ≤ LIM by simp -implicitDefEqProofs only [LIM]; omega)]
  rw [forD_go (σ := List (List Nat)) (fun found => [some (dn n), some (dn s), some (dll found), none, none, none, none]) (fun f _ => stepLots n f)
    (fun m found => LotsOk n found m ∧ found.length ≤ n ^ m) [[]] rfl ⟨fun lot h => by simp at h; simp [h], by simp⟩ (fun m found x hx I => ?_) (fun found => rfl)]
  · simp -implicitDefEqProofs only [ev_var, ev_vin, ev_mov, ev_ref, ev_int, ev_bl, ev_non, ev_str, ev_gint, ev_op, evs_nil, evs_cons, ev_and, ev_or, ev_not, ev_ite, ev_scal, ev_tall, ev_chn, ev_comp, ev_comp2, evc_nil, evc_one, bind_nm, bind_tp2, bind_tl2, bind_tp3, bind_tp4, evSs_nil, evSs_cons, evS_asg, evS_par2, evS_par3, evS_sub, evS_sub2, evS_augs, evS_ex, evS_ret, evS_retN, evS_iff, evS_pass, evS_for, evS_whl, ev_call, ev_callk, ev_app, ev_pop, ev_popi, noRef, isRef_var, isRef_vin, isRef_mov, isRef_int, isRef_bl, isRef_str, isRef_pop, isRef_not, isRef_scal, isRef_non, isRef_op, isRef_gint, isRef_and, isRef_or, isRef_ite, isRef_call, isRef_callk, isRef_app, isRef_popi, isRef_comp, isRef_comp2, isRef_tall, isRef_chn, isRef_ref, ev_callR, eva_nil, eva_ref, eva_e, fill_nil, fill_ref, fill_e, back_nil, back_ref, back_e, fin1, fin2, fin3, Option.isNone_some, Bool.false_and, aug_lst, augn, ix3_0, sx3_0, ix3_1, sx3_1, ix3_2, sx3_2, ix5_0, sx5_0, ix5_1, sx5_1, ix5_2, sx5_2, ix5_3, sx5_3, ix5_4, sx5_4, Option.isNone_none, Bool.and_self, Bool.true_and, Bool.and_true, setAt_eq, oD0, oDs, st0, sts, wipe0, wipes, Option.map_some, Option.bind_some, cont_nx, cont_rt, cond_t, cond_f, cond_bl, not_bl, tst_bl, scal_int, scal_bl, scal_str, scal_non, valO_rt, valO_nx, wipeO_nx, wipeO_rt, wipeC_some, wipeF_some, isL_lst, l0, l1, l2, l3, l4, l5, l6, l7, l8, l9, l10, l11, l12, l13, l14, l15, l16, l17, l18, l19, l20, l21, l22, l23, l24, l25, l26, l27, l28, l29, l30, l31, l32, l33, l34, l35, l36, l37, l38, l39, l40, l41, l42, l43, l44, l45, l46, l47, l48, l49, l50, l51, l52, l53, l54, l55, l56, l57, l58, l59, l60, l61, l62, l63, l64, l65, l66, l67, l68, l69, l99, l100, l101, l131, l1000, l1001, l7919, l10007, l27183, l48271, l62089, l69621, l1000003, l1140671, l27644437, l32416187, l1103515245, l2147483587, l2147483629, l2147483647, l1000000000000000000, o_lst0, o_lst1, o_lst2, o_lst3, o_lst4, o_lst5, o_lst6, o_lst7, o_lst8, o_lst9, o_lst10, o_lst11, o_lst12, o_tup2, o_tup3, o_addn, o_neg1, o_ltn, o_len', o_gtn, o_gen, o_eqn, o_nen, o_eql, o_nel, o_eqll, o_nell, o_nenl, o_nenll, o_eqnl, o_eqnll, o_len, o_len0, o_lenD, o_drop, o_take, o_takez, arr10, arr01, arr0, arr210, arr012, arr120, arr201, o_rev, o_listOf, o_listOfT, o_tupOf, List.length_map, it_list, it_tup, it_rev, it_enum, it_zip, o_allb, o_all, o_any, o_anyb, o_sum, o_srt, o_inn, o_notin, o_innl, o_notinl, o_count, o_toInt, turnB, clauseB, clauseF, if_true, if_false, Bool.false_eq_true, Bool.not_true, Bool.not_false, tall_ll (Nat.le_refl 2)]; rfl
  · have hm : m < s := by simpa using (List.getElem?_eq_some_iff.mp hx).1
    have hlim := pow_lim (t := m + 1) hn (by omega)
    rw [Nat.pow_succ] at hlim
    have hmul : found.length * n ≤ n ^ m * n := Nat.mul_le_mul_right n I.2
    refine ⟨?_, stepLots_ok I.1, ?_⟩
    · simp -implicitDefEqProofs only [ev_var, ev_vin, ev_mov, ev_ref, ev_int, ev_bl, ev_non, ev_str, ev_gint, ev_op, evs_nil, evs_cons, ev_and, ev_or, ev_not, ev_ite, ev_scal, ev_tall, ev_chn, ev_comp, ev_comp2, evc_nil, evc_one, bind_nm, bind_tp2, bind_tl2, bind_tp3, bind_tp4, evSs_nil, evSs_cons, evS_asg, evS_par2, evS_par3, evS_sub, evS_sub2, evS_augs, evS_ex, evS_ret, evS_retN, evS_iff, evS_pass, evS_for, evS_whl, ev_call, ev_callk, ev_app, ev_pop, ev_popi, noRef, isRef_var, isRef_vin, isRef_mov, isRef_int, isRef_bl, isRef_str, isRef_pop, isRef_not, isRef_scal, isRef_non, isRef_op, isRef_gint, isRef_and, isRef_or, isRef_ite, isRef_call, isRef_callk, isRef_app, isRef_popi, isRef_comp, isRef_comp2, isRef_tall, isRef_chn, isRef_ref, ev_callR, eva_nil, eva_ref, eva_e, fill_nil, fill_ref, fill_e, back_nil, back_ref, back_e, fin1, fin2, fin3, Option.isNone_some, Bool.false_and, aug_lst, augn, ix3_0, sx3_0, ix3_1, sx3_1, ix3_2, sx3_2, ix5_0, sx5_0, ix5_1, sx5_1, ix5_2, sx5_2, ix5_3, sx5_3, ix5_4, sx5_4, Option.isNone_none, Bool.and_self, Bool.true_and, Bool.and_true, setAt_eq, oD0, oDs, st0, sts, wipe0, wipes, Option.map_some, Option.bind_some, cont_nx, cont_rt, cond_t, cond_f, cond_bl, not_bl, tst_bl, scal_int, scal_bl, scal_str, scal_non, valO_rt, valO_nx, wipeO_nx, wipeO_rt, wipeC_some, wipeF_some, isL_lst, l0, l1, l2, l3, l4, l5, l6, l7, l8, l9, l10, l11, l12, l13, l14, l15, l16, l17, l18, l19, l20, l21, l22, l23, l24, l25, l26, l27, l28, l29, l30, l31, l32, l33, l34, l35, l36, l37, l38, l39, l40, l41, l42, l43, l44, l45, l46, l47, l48, l49, l50, l51, l52, l53, l54, l55, l56, l57, l58, l59, l60, l61, l62, l63, l64, l65, l66, l67, l68, l69, l99, l100, l101, l131, l1000, l1001, l7919, l10007, l27183, l48271, l62089, l69621, l1000003, l1140671, l27644437, l32416187, l1103515245, l2147483587, l2147483629, l2147483647, l1000000000000000000, o_lst0, o_lst1, o_lst2, o_lst3, o_lst4, o_lst5, o_lst6, o_lst7, o_lst8, o_lst9, o_lst10, o_lst11, o_lst12, o_tup2, o_tup3, o_addn, o_neg1, o_ltn, o_len', o_gtn, o_gen, o_eqn, o_nen, o_eql, o_nel, o_eqll, o_nell, o_nenl, o_nenll, o_eqnl, o_eqnll, o_len, o_len0, o_lenD, o_drop, o_take, o_takez, arr10, arr01, arr0, arr210, arr012, arr120, arr201, o_rev, o_listOf, o_listOfT, o_tupOf, List.length_map, it_list, it_tup, it_rev, it_enum, it_zip, o_allb, o_all, o_any, o_anyb, o_sum, o_srt, o_inn, o_notin, o_innl, o_notinl, o_count, o_toInt, turnB, clauseB, clauseF, if_true, if_false, Bool.false_eq_true, Bool.not_true, Bool.not_false]
      rw [forD_go (σ := List (List Nat)) (fun longer => [some (dn n), some (dn s), some (dll found), some (dn x), some (dll longer), none, none]) (fun a lot => a ++ moreLots n lot)
        (fun j longer => longer.length ≤ j * n) [] rfl (by simp) (fun j longer lot hl J => ?_) (fun longer => rfl)]
      · simp -implicitDefEqProofs only [ev_var, ev_vin, ev_mov, ev_ref, ev_int, ev_bl, ev_non, ev_str, ev_gint, ev_op, evs_nil, evs_cons, ev_and, ev_or, ev_not, ev_ite, ev_scal, ev_tall, ev_chn, ev_comp, ev_comp2, evc_nil, evc_one, bind_nm, bind_tp2, bind_tl2, bind_tp3, bind_tp4, evSs_nil, evSs_cons, evS_asg, evS_par2, evS_par3, evS_sub, evS_sub2, evS_augs, evS_ex, evS_ret, evS_retN, evS_iff, evS_pass, evS_for, evS_whl, ev_call, ev_callk, ev_app, ev_pop, ev_popi, noRef, isRef_var, isRef_vin, isRef_mov, isRef_int, isRef_bl, isRef_str, isRef_pop, isRef_not, isRef_scal, isRef_non, isRef_op, isRef_gint, isRef_and, isRef_or, isRef_ite, isRef_call, isRef_callk, isRef_app, isRef_popi, isRef_comp, isRef_comp2, isRef_tall, isRef_chn, isRef_ref, ev_callR, eva_nil, eva_ref, eva_e, fill_nil, fill_ref, fill_e, back_nil, back_ref, back_e, fin1, fin2, fin3, Option.isNone_some, Bool.false_and, aug_lst, augn, ix3_0, sx3_0, ix3_1, sx3_1, ix3_2, sx3_2, ix5_0, sx5_0, ix5_1, sx5_1, ix5_2, sx5_2, ix5_3, sx5_3, ix5_4, sx5_4, Option.isNone_none, Bool.and_self, Bool.true_and, Bool.and_true, setAt_eq, oD0, oDs, st0, sts, wipe0, wipes, Option.map_some, Option.bind_some, cont_nx, cont_rt, cond_t, cond_f, cond_bl, not_bl, tst_bl, scal_int, scal_bl, scal_str, scal_non, valO_rt, valO_nx, wipeO_nx, wipeO_rt, wipeC_some, wipeF_some, isL_lst, l0, l1, l2, l3, l4, l5, l6, l7, l8, l9, l10, l11, l12, l13, l14, l15, l16, l17, l18, l19, l20, l21, l22, l23, l24, l25, l26, l27, l28, l29, l30, l31, l32, l33, l34, l35, l36, l37, l38, l39, l40, l41, l42, l43, l44, l45, l46, l47, l48, l49, l50, l51, l52, l53, l54, l55, l56, l57, l58, l59, l60, l61, l62, l63, l64, l65, l66, l67, l68, l69, l99, l100, l101, l131, l1000, l1001, l7919, l10007, l27183, l48271, l62089, l69621, l1000003, l1140671, l27644437, l32416187, l1103515245, l2147483587, l2147483629, l2147483647, l1000000000000000000, o_lst0, o_lst1, o_lst2, o_lst3, o_lst4, o_lst5, o_lst6, o_lst7, o_lst8, o_lst9, o_lst10, o_lst11, o_lst12, o_tup2, o_tup3, o_addn, o_neg1, o_ltn, o_len', o_gtn, o_gen, o_eqn, o_nen, o_eql, o_nel, o_eqll, o_nell, o_nenl, o_nenll, o_eqnl, o_eqnll, o_len, o_len0, o_lenD, o_drop, o_take, o_takez, arr10, arr01, arr0, arr210, arr012, arr120, arr201, o_rev, o_listOf, o_listOfT, o_tupOf, List.length_map, it_list, it_tup, it_rev, it_enum, it_zip, o_allb, o_all, o_any, o_anyb, o_sum, o_srt, o_inn, o_notin, o_innl, o_notinl, o_count, o_toInt, turnB, clauseB, clauseF, if_true, if_false, Bool.false_eq_true, Bool.not_true, Bool.not_false, foldl_flatMap, List.nil_append]; rfl
      · obtain ⟨l1, l2⟩ := I.1 lot (List.mem_of_getElem? hl)
        have hj : j < found.length := (List.getElem?_eq_some_iff.mp hl).1
        have hj2 : (j + 1) * n ≤ found.length * n := Nat.mul_le_mul_right n hj
        rw [Nat.succ_mul] at hj2 ⊢
        have lm := moreLots_len (n := n) (lot := lot)
        refine ⟨?_, by rw [List.length_append]; omega⟩
        have nle := nextN_le l2
        have hne : (!lot.isEmpty) = true ∧ (∃ y, lot.getLast? = some y ∧ nextN lot = y + 1) ∨ (!lot.isEmpty) = false ∧ nextN lot = 0 := by
          cases e : lot.getLast? with
          | none =>
            have : lot = [] := by simpa using e
            subst this; right; exact ⟨rfl, rfl⟩
          | some y =>
            left
            refine ⟨?_, y, rfl, by unfold nextN; rw [e]⟩
            cases lot with
            | nil => cases e
            | cons a l => rfl
        have fin : ∀ (ρ : REnv), wipeD ρ [6] = [some (dn n), some (dn s), some (dll found), some (dn x), some (dll longer), some (dl lot), none] → compD (clauseB (callD P k) (.nm 6) [] (.op .add [.vin 5, .op .lst [.scal (.var 6)]])) [6] ((List.range' (nextN lot) (n - nextN lot)).map dn) ρ [] = some ((moreLots n lot).map dl, [some (dn n), some (dn s), some (dll found), some (dn x), some (dll longer), some (dl lot), none]) := fun ρ hρ => by
          rw [compD_all (fun v => dl (lot ++ [v])) hρ (fun v hv => ?_) (by simp only [List.length_nil, List.length_range', LIM]; omega)]
          · rw [List.nil_append, moreLots, List.map_map]; rfl
          · simp -implicitDefEqProofs only [ev_var, ev_vin, ev_mov, ev_ref, ev_int, ev_bl, ev_non, ev_str, ev_gint, ev_op, evs_nil, evs_cons, ev_and, ev_or, ev_not, ev_ite, ev_scal, ev_tall, ev_chn, ev_comp, ev_comp2, evc_nil, evc_one, bind_nm, bind_tp2, bind_tl2, bind_tp3, bind_tp4, evSs_nil, evSs_cons, evS_asg, evS_par2, evS_par3, evS_sub, evS_sub2, evS_augs, evS_ex, evS_ret, evS_retN, evS_iff, evS_pass, evS_for, evS_whl, ev_call, ev_callk, ev_app, ev_pop, ev_popi, noRef, isRef_var, isRef_vin, isRef_mov, isRef_int, isRef_bl, isRef_str, isRef_pop, isRef_not, isRef_scal, isRef_non, isRef_op, isRef_gint, isRef_and, isRef_or, isRef_ite, isRef_call, isRef_callk, isRef_app, isRef_popi, isRef_comp, isRef_comp2, isRef_tall, isRef_chn, isRef_ref, ev_callR, eva_nil, eva_ref, eva_e, fill_nil, fill_ref, fill_e, back_nil, back_ref, back_e, fin1, fin2, fin3, Option.isNone_some, Bool.false_and, aug_lst, augn, ix3_0, sx3_0, ix3_1, sx3_1, ix3_2, sx3_2, ix5_0, sx5_0, ix5_1, sx5_1, ix5_2, sx5_2, ix5_3, sx5_3, ix5_4, sx5_4, Option.isNone_none, Bool.and_self, Bool.true_and, Bool.and_true, setAt_eq, oD0, oDs, st0, sts, wipe0, wipes, Option.map_some, Option.bind_some, cont_nx, cont_rt, cond_t, cond_f, cond_bl, not_bl, tst_bl, scal_int, scal_bl, scal_str, scal_non, valO_rt, valO_nx, wipeO_nx, wipeO_rt, wipeC_some, wipeF_some, isL_lst, l0, l1, l2, l3, l4, l5, l6, l7, l8, l9, l10, l11, l12, l13, l14, l15, l16, l17, l18, l19, l20, l21, l22, l23, l24, l25, l26, l27, l28, l29, l30, l31, l32, l33, l34, l35, l36, l37, l38, l39, l40, l41, l42, l43, l44, l45, l46, l47, l48, l49, l50, l51, l52, l53, l54, l55, l56, l57, l58, l59, l60, l61, l62, l63, l64, l65, l66, l67, l68, l69, l99, l100, l101, l131, l1000, l1001, l7919, l10007, l27183, l48271, l62089, l69621, l1000003, l1140671, l27644437, l32416187, l1103515245, l2147483587, l2147483629, l2147483647, l1000000000000000000, o_lst0, o_lst1, o_lst2, o_lst3, o_lst4, o_lst5, o_lst6, o_lst7, o_lst8, o_lst9, o_lst10, o_lst11, o_lst12, o_tup2, o_tup3, o_addn, o_neg1, o_ltn, o_len', o_gtn, o_gen, o_eqn, o_nen, o_eql, o_nel, o_eqll, o_nell, o_nenl, o_nenll, o_eqnl, o_eqnll, o_len, o_len0, o_lenD, o_drop, o_take, o_takez, arr10, arr01, arr0, arr210, arr012, arr120, arr201, o_rev, o_listOf, o_listOfT, o_tupOf, List.length_map, it_list, it_tup, it_rev, it_enum, it_zip, o_allb, o_all, o_any, o_anyb, o_sum, o_srt, o_inn, o_notin, o_innl, o_notinl, o_count, o_toInt, turnB, clauseB, clauseF, if_true, if_false, Bool.false_eq_true, Bool.not_true, Bool.not_false]
            rw [o_cat1 (f := dn) (by simp only [LIM]; omega)]
            simp -implicitDefEqProofs only [ev_var, ev_vin, ev_mov, ev_ref, ev_int, ev_bl, ev_non, ev_str, ev_gint, ev_op, evs_nil, evs_cons, ev_and, ev_or, ev_not, ev_ite, ev_scal, ev_tall, ev_chn, ev_comp, ev_comp2, evc_nil, evc_one, bind_nm, bind_tp2, bind_tl2, bind_tp3, bind_tp4, evSs_nil, evSs_cons, evS_asg, evS_par2, evS_par3, evS_sub, evS_sub2, evS_augs, evS_ex, evS_ret, evS_retN, evS_iff, evS_pass, evS_for, evS_whl, ev_call, ev_callk, ev_app, ev_pop, ev_popi, noRef, isRef_var, isRef_vin, isRef_mov, isRef_int, isRef_bl, isRef_str, isRef_pop, isRef_not, isRef_scal, isRef_non, isRef_op, isRef_gint, isRef_and, isRef_or, isRef_ite, isRef_call, isRef_callk, isRef_app, isRef_popi, isRef_comp, isRef_comp2, isRef_tall, isRef_chn, isRef_ref, ev_callR, eva_nil, eva_ref, eva_e, fill_nil, fill_ref, fill_e, back_nil, back_ref, back_e, fin1, fin2, fin3, Option.isNone_some, Bool.false_and, aug_lst, augn, ix3_0, sx3_0, ix3_1, sx3_1, ix3_2, sx3_2, ix5_0, sx5_0, ix5_1, sx5_1, ix5_2, sx5_2, ix5_3, sx5_3, ix5_4, sx5_4, Option.isNone_none, Bool.and_self, Bool.true_and, Bool.and_true, setAt_eq, oD0, oDs, st0, sts, wipe0, wipes, Option.map_some, Option.bind_some, cont_nx, cont_rt, cond_t, cond_f, cond_bl, not_bl, tst_bl, scal_int, scal_bl, scal_str, scal_non, valO_rt, valO_nx, wipeO_nx, wipeO_rt, wipeC_some, wipeF_some, isL_lst, l0, l1, l2, l3, l4, l5, l6, l7, l8, l9, l10, l11, l12, l13, l14, l15, l16, l17, l18, l19, l20, l21, l22, l23, l24, l25, l26, l27, l28, l29, l30, l31, l32, l33, l34, l35, l36, l37, l38, l39, l40, l41, l42, l43, l44, l45, l46, l47, l48, l49, l50, l51, l52, l53, l54, l55, l56, l57, l58, l59, l60, l61, l62, l63, l64, l65, l66, l67, l68, l69, l99, l100, l101, l131, l1000, l1001, l7919, l10007, l27183, l48271, l62089, l69621, l1000003, l1140671, l27644437, l32416187, l1103515245, l2147483587, l2147483629, l2147483647, l1000000000000000000, o_lst0, o_lst1, o_lst2, o_lst3, o_lst4, o_lst5, o_lst6, o_lst7, o_lst8, o_lst9, o_lst10, o_lst11, o_lst12, o_tup2, o_tup3, o_addn, o_neg1, o_ltn, o_len', o_gtn, o_gen, o_eqn, o_nen, o_eql, o_nel, o_eqll, o_nell, o_nenl, o_nenll, o_eqnl, o_eqnll, o_len, o_len0, o_lenD, o_drop, o_take, o_takez, arr10, arr01, arr0, arr210, arr012, arr120, arr201, o_rev, o_listOf, o_listOfT, o_tupOf, List.length_map, it_list, it_tup, it_rev, it_enum, it_zip, o_allb, o_all, o_any, o_anyb, o_sum, o_srt, o_inn, o_notin, o_innl, o_notinl, o_count, o_toInt, turnB, clauseB, clauseF, if_true, if_false, Bool.false_eq_true, Bool.not_true, Bool.not_false]
        rcases hne with ⟨c, y, ey, en⟩ | ⟨c, en⟩
        · simp -implicitDefEqProofs only [ev_var, ev_vin, ev_mov, ev_ref, ev_int, ev_bl, ev_non, ev_str, ev_gint, ev_op, evs_nil, evs_cons, ev_and, ev_or, ev_not, ev_ite, ev_scal, ev_tall, ev_chn, ev_comp, ev_comp2, evc_nil, evc_one, bind_nm, bind_tp2, bind_tl2, bind_tp3, bind_tp4, evSs_nil, evSs_cons, evS_asg, evS_par2, evS_par3, evS_sub, evS_sub2, evS_augs, evS_ex, evS_ret, evS_retN, evS_iff, evS_pass, evS_for, evS_whl, ev_call, ev_callk, ev_app, ev_pop, ev_popi, noRef, isRef_var, isRef_vin, isRef_mov, isRef_int, isRef_bl, isRef_str, isRef_pop, isRef_not, isRef_scal, isRef_non, isRef_op, isRef_gint, isRef_and, isRef_or, isRef_ite, isRef_call, isRef_callk, isRef_app, isRef_popi, isRef_comp, isRef_comp2, isRef_tall, isRef_chn, isRef_ref, ev_callR, eva_nil, eva_ref, eva_e, fill_nil, fill_ref, fill_e, back_nil, back_ref, back_e, fin1, fin2, fin3, Option.isNone_some, Bool.false_and, aug_lst, augn, ix3_0, sx3_0, ix3_1, sx3_1, ix3_2, sx3_2, ix5_0, sx5_0, ix5_1, sx5_1, ix5_2, sx5_2, ix5_3, sx5_3, ix5_4, sx5_4, Option.isNone_none, Bool.and_self, Bool.true_and, Bool.and_true, setAt_eq, oD0, oDs, st0, sts, wipe0, wipes, Option.map_some, Option.bind_some, cont_nx, cont_rt, cond_t, cond_f, cond_bl, not_bl, tst_bl, scal_int, scal_bl, scal_str, scal_non, valO_rt, valO_nx, wipeO_nx, wipeO_rt, wipeC_some, wipeF_some, isL_lst, l0, l1, l2, l3, l4, l5, l6, l7, l8, l9, l10, l11, l12, l13, l14, l15, l16, l17, l18, l19, l20, l21, l22, l23, l24, l25, l26, l27, l28, l29, l30, l31, l32, l33, l34, l35, l36, l37, l38, l39, l40, l41, l42, l43, l44, l45, l46, l47, l48, l49, l50, l51, l52, l53, l54, l55, l56, l57, l58, l59, l60, l61, l62, l63, l64, l65, l66, l67, l68, l69, l99, l100, l101, l131, l1000, l1001, l7919, l10007, l27183, l48271, l62089, l69621, l1000003, l1140671, l27644437, l32416187, l1103515245, l2147483587, l2147483629, l2147483647, l1000000000000000000, o_lst0, o_lst1, o_lst2, o_lst3, o_lst4, o_lst5, o_lst6, o_lst7, o_lst8, o_lst9, o_lst10, o_lst11, o_lst12, o_tup2, o_tup3, o_addn, o_neg1, o_ltn, o_len', o_gtn, o_gen, o_eqn, o_nen, o_eql, o_nel, o_eqll, o_nell, o_nenl, o_nenll, o_eqnl, o_eqnll, o_len, o_len0, o_lenD, o_drop, o_take, o_takez, arr10, arr01, arr0, arr210, arr012, arr120, arr201, o_rev, o_listOf, o_listOfT, o_tupOf, List.length_map, it_list, it_tup, it_rev, it_enum, it_zip, o_allb, o_all, o_any, o_anyb, o_sum, o_srt, o_inn, o_notin, o_innl, o_notinl, o_count, o_toInt, turnB, clauseB, clauseF, if_true, if_false, Bool.false_eq_true, Bool.not_true, Bool.not_false, c, o_ixlast ey, ← en, it_r2 (show nextN lot ≤ LIM by simp -implicitDefEqProofs only [LIM]; omega) (show n ≤ LIM by simp -implicitDefEqProofs only [LIM]; omega)]
          rw [fin _ rfl]
          simp -implicitDefEqProofs only [ev_var, ev_vin, ev_mov, ev_ref, ev_int, ev_bl, ev_non, ev_str, ev_gint, ev_op, evs_nil, evs_cons, ev_and, ev_or, ev_not, ev_ite, ev_scal, ev_tall, ev_chn, ev_comp, ev_comp2, evc_nil, evc_one, bind_nm, bind_tp2, bind_tl2, bind_tp3, bind_tp4, evSs_nil, evSs_cons, evS_asg, evS_par2, evS_par3, evS_sub, evS_sub2, evS_augs, evS_ex, evS_ret, evS_retN, evS_iff, evS_pass, evS_for, evS_whl, ev_call, ev_callk, ev_app, ev_pop, ev_popi, noRef, isRef_var, isRef_vin, isRef_mov, isRef_int, isRef_bl, isRef_str, isRef_pop, isRef_not, isRef_scal, isRef_non, isRef_op, isRef_gint, isRef_and, isRef_or, isRef_ite, isRef_call, isRef_callk, isRef_app, isRef_popi, isRef_comp, isRef_comp2, isRef_tall, isRef_chn, isRef_ref, ev_callR, eva_nil, eva_ref, eva_e, fill_nil, fill_ref, fill_e, back_nil, back_ref, back_e, fin1, fin2, fin3, Option.isNone_some, Bool.false_and, aug_lst, augn, ix3_0, sx3_0, ix3_1, sx3_1, ix3_2, sx3_2, ix5_0, sx5_0, ix5_1, sx5_1, ix5_2, sx5_2, ix5_3, sx5_3, ix5_4, sx5_4, Option.isNone_none, Bool.and_self, Bool.true_and, Bool.and_true, setAt_eq, oD0, oDs, st0, sts, wipe0, wipes, Option.map_some, Option.bind_some, cont_nx, cont_rt, cond_t, cond_f, cond_bl, not_bl, tst_bl, scal_int, scal_bl, scal_str, scal_non, valO_rt, valO_nx, wipeO_nx, wipeO_rt, wipeC_some, wipeF_some, isL_lst, l0, l1, l2, l3, l4, l5, l6, l7, l8, l9, l10, l11, l12, l13, l14, l15, l16, l17, l18, l19, l20, l21, l22, l23, l24, l25, l26, l27, l28, l29, l30, l31, l32, l33, l34, l35, l36, l37, l38, l39, l40, l41, l42, l43, l44, l45, l46, l47, l48, l49, l50, l51, l52, l53, l54, l55, l56, l57, l58, l59, l60, l61, l62, l63, l64, l65, l66, l67, l68, l69, l99, l100, l101, l131, l1000, l1001, l7919, l10007, l27183, l48271, l62089, l69621, l1000003, l1140671, l27644437, l32416187, l1103515245, l2147483587, l2147483629, l2147483647, l1000000000000000000, o_lst0, o_lst1, o_lst2, o_lst3, o_lst4, o_lst5, o_lst6, o_lst7, o_lst8, o_lst9, o_lst10, o_lst11, o_lst12, o_tup2, o_tup3, o_addn, o_neg1, o_ltn, o_len', o_gtn, o_gen, o_eqn, o_nen, o_eql, o_nel, o_eqll, o_nell, o_nenl, o_nenll, o_eqnl, o_eqnll, o_len, o_len0, o_lenD, o_drop, o_take, o_takez, arr10, arr01, arr0, arr210, arr012, arr120, arr201, o_rev, o_listOf, o_listOfT, o_tupOf, List.length_map, it_list, it_tup, it_rev, it_enum, it_zip, o_allb, o_all, o_any, o_anyb, o_sum, o_srt, o_inn, o_notin, o_innl, o_notinl, o_count, o_toInt, turnB, clauseB, clauseF, if_true, if_false, Bool.false_eq_true, Bool.not_true, Bool.not_false, o_catf (f := dl) (show longer.length + (moreLots n lot).length ≤ LIM by omega)]
        · simp -implicitDefEqProofs only [ev_var, ev_vin, ev_mov, ev_ref, ev_int, ev_bl, ev_non, ev_str, ev_gint, ev_op, evs_nil, evs_cons, ev_and, ev_or, ev_not, ev_ite, ev_scal, ev_tall, ev_chn, ev_comp, ev_comp2, evc_nil, evc_one, bind_nm, bind_tp2, bind_tl2, bind_tp3, bind_tp4, evSs_nil, evSs_cons, evS_asg, evS_par2, evS_par3, evS_sub, evS_sub2, evS_augs, evS_ex, evS_ret, evS_retN, evS_iff, evS_pass, evS_for, evS_whl, ev_call, ev_callk, ev_app, ev_pop, ev_popi, noRef, isRef_var, isRef_vin, isRef_mov, isRef_int, isRef_bl, isRef_str, isRef_pop, isRef_not, isRef_scal, isRef_non, isRef_op, isRef_gint, isRef_and, isRef_or, isRef_ite, isRef_call, isRef_callk, isRef_app, isRef_popi, isRef_comp, isRef_comp2, isRef_tall, isRef_chn, isRef_ref, ev_callR, eva_nil, eva_ref, eva_e, fill_nil, fill_ref, fill_e, back_nil, back_ref, back_e, fin1, fin2, fin3, Option.isNone_some, Bool.false_and, aug_lst, augn, ix3_0, sx3_0, ix3_1, sx3_1, ix3_2, sx3_2, ix5_0, sx5_0, ix5_1, sx5_1, ix5_2, sx5_2, ix5_3, sx5_3, ix5_4, sx5_4, Option.isNone_none, Bool.and_self, Bool.true_and, Bool.and_true, setAt_eq, oD0, oDs, st0, sts, wipe0, wipes, Option.map_some, Option.bind_some, cont_nx, cont_rt, cond_t, cond_f, cond_bl, not_bl, tst_bl, scal_int, scal_bl, scal_str, scal_non, valO_rt, valO_nx, wipeO_nx, wipeO_rt, wipeC_some, wipeF_some, isL_lst, l0, l1, l2, l3, l4, l5, l6, l7, l8, l9, l10, l11, l12, l13, l14, l15, l16, l17, l18, l19, l20, l21, l22, l23, l24, l25, l26, l27, l28, l29, l30, l31, l32, l33, l34, l35, l36, l37, l38, l39, l40, l41, l42, l43, l44, l45, l46, l47, l48, l49, l50, l51, l52, l53, l54, l55, l56, l57, l58, l59, l60, l61, l62, l63, l64, l65, l66, l67, l68, l69, l99, l100, l101, l131, l1000, l1001, l7919, l10007, l27183, l48271, l62089, l69621, l1000003, l1140671, l27644437, l32416187, l1103515245, l2147483587, l2147483629, l2147483647, l1000000000000000000, o_lst0, o_lst1, o_lst2, o_lst3, o_lst4, o_lst5, o_lst6, o_lst7, o_lst8, o_lst9, o_lst10, o_lst11, o_lst12, o_tup2, o_tup3, o_addn, o_neg1, o_ltn, o_len', o_gtn, o_gen, o_eqn, o_nen, o_eql, o_nel, o_eqll, o_nell, o_nenl, o_nenll, o_eqnl, o_eqnll, o_len, o_len0, o_lenD, o_drop, o_take, o_takez, arr10, arr01, arr0, arr210, arr012, arr120, arr201, o_rev, o_listOf, o_listOfT, o_tupOf, List.length_map, it_list, it_tup, it_rev, it_enum, it_zip, o_allb, o_all, o_any, o_anyb, o_sum, o_srt, o_inn, o_notin, o_innl, o_notinl, o_count, o_toInt, turnB, clauseB, clauseF, if_true, if_false, Bool.false_eq_true, Bool.not_true, Bool.not_false, c, it_r2 (i := 0) (show 0 ≤ LIM by simp -implicitDefEqProofs only [LIM]; omega) (show n ≤ LIM by simp -implicitDefEqProofs only [LIM]; omega)]
          rw [en] at fin
          rw [fin _ rfl]
          simp -implicitDefEqProofs only [ev_var, ev_vin, ev_mov, ev_ref, ev_int, ev_bl, ev_non, ev_str, ev_gint, ev_op, evs_nil, evs_cons, ev_and, ev_or, ev_not, ev_ite, ev_scal, ev_tall, ev_chn, ev_comp, ev_comp2, evc_nil, evc_one, bind_nm, bind_tp2, bind_tl2, bind_tp3, bind_tp4, evSs_nil, evSs_cons, evS_asg, evS_par2, evS_par3, evS_sub, evS_sub2, evS_augs, evS_ex, evS_ret, evS_retN, evS_iff, evS_pass, evS_for, evS_whl, ev_call, ev_callk, ev_app, ev_pop, ev_popi, noRef, isRef_var, isRef_vin, isRef_mov, isRef_int, isRef_bl, isRef_str, isRef_pop, isRef_not, isRef_scal, isRef_non, isRef_op, isRef_gint, isRef_and, isRef_or, isRef_ite, isRef_call, isRef_callk, isRef_app, isRef_popi, isRef_comp, isRef_comp2, isRef_tall, isRef_chn, isRef_ref, ev_callR, eva_nil, eva_ref, eva_e, fill_nil, fill_ref, fill_e, back_nil, back_ref, back_e, fin1, fin2, fin3, Option.isNone_some, Bool.false_and, aug_lst, augn, ix3_0, sx3_0, ix3_1, sx3_1, ix3_2, sx3_2, ix5_0, sx5_0, ix5_1, sx5_1, ix5_2, sx5_2, ix5_3, sx5_3, ix5_4, sx5_4, Option.isNone_none, Bool.and_self, Bool.true_and, Bool.and_true, setAt_eq, oD0, oDs, st0, sts, wipe0, wipes, Option.map_some, Option.bind_some, cont_nx, cont_rt, cond_t, cond_f, cond_bl, not_bl, tst_bl, scal_int, scal_bl, scal_str, scal_non, valO_rt, valO_nx, wipeO_nx, wipeO_rt, wipeC_some, wipeF_some, isL_lst, l0, l1, l2, l3, l4, l5, l6, l7, l8, l9, l10, l11, l12, l13, l14, l15, l16, l17, l18, l19, l20, l21, l22, l23, l24, l25, l26, l27, l28, l29, l30, l31, l32, l33, l34, l35, l36, l37, l38, l39, l40, l41, l42, l43, l44, l45, l46, l47, l48, l49, l50, l51, l52, l53, l54, l55, l56, l57, l58, l59, l60, l61, l62, l63, l64, l65, l66, l67, l68, l69, l99, l100, l101, l131, l1000, l1001, l7919, l10007, l27183, l48271, l62089, l69621, l1000003, l1140671, l27644437, l32416187, l1103515245, l2147483587, l2147483629, l2147483647, l1000000000000000000, o_lst0, o_lst1, o_lst2, o_lst3, o_lst4, o_lst5, o_lst6, o_lst7, o_lst8, o_lst9, o_lst10, o_lst11, o_lst12, o_tup2, o_tup3, o_addn, o_neg1, o_ltn, o_len', o_gtn, o_gen, o_eqn, o_nen, o_eql, o_nel, o_eqll, o_nell, o_nenl, o_nenll, o_eqnl, o_eqnll, o_len, o_len0, o_lenD, o_drop, o_take, o_takez, arr10, arr01, arr0, arr210, arr012, arr120, arr201, o_rev, o_listOf, o_listOfT, o_tupOf, List.length_map, it_list, it_tup, it_rev, it_enum, it_zip, o_allb, o_all, o_any, o_anyb, o_sum, o_srt, o_inn, o_notin, o_innl, o_notinl, o_count, o_toInt, turnB, clauseB, clauseF, if_true, if_false, Bool.false_eq_true, Bool.not_true, Bool.not_false, o_catf (f := dl) (show longer.length + (moreLots n lot).length ≤ LIM by omega)]
    · refine Nat.le_trans (flatMap_len fun x _ => moreLots_len) ?_
      rw [Nat.pow_succ]
      exact hmul
end PL

namespace PL
open PySem OH
/-! ### all orders -/
def moreOrd (n : Nat) (row : List Nat) : List (List Nat) := ((List.range n).filter fun k => !decide (k ∈ row)).map fun k => row ++ [k]
def stepOrd (n : Nat) (found : List (List Nat)) : List (List Nat) := found.flatMap (moreOrd n)
def allOrd (n : Nat) : List (List Nat) := (List.range n).foldl (fun f _ => stepOrd n f) [[]]
theorem moreOrd_len {n : Nat} {row : List Nat} : (moreOrd n row).length ≤ n := by
  unfold moreOrd
  rw [List.length_map]
  refine Nat.le_trans (List.length_filter_le _ _) ?_
  rw [List.length_range]; exact Nat.le_refl _
def OrdOk (n : Nat) (found : List (List Nat)) (t : Nat) : Prop := ∀ row ∈ found, row.length = t ∧ row.Nodup ∧ ∀ x ∈ row, x < n
theorem stepOrd_ok {n t : Nat} {found : List (List Nat)} (h : OrdOk n found t) : OrdOk n (stepOrd n found) (t + 1) := by
  intro row hl
  unfold stepOrd at hl
  obtain ⟨l0, h0, hl⟩ := List.mem_flatMap.mp hl
  unfold moreOrd at hl
  obtain ⟨k, hk, rfl⟩ := List.mem_map.mp hl
  obtain ⟨h1, h2, h3⟩ := h l0 h0
  obtain ⟨hk1, hk2⟩ := List.mem_filter.mp hk
  have hk2' : k ∉ l0 := by simpa using hk2
  refine ⟨by simp [h1], ?_, fun x hx => ?_⟩
  · rw [List.nodup_append]
    refine ⟨h2, by simp, fun a ha b hb => ?_⟩
    rw [List.mem_singleton.mp hb]
    intro e; exact hk2' (e ▸ ha)
  · rcases List.mem_append.mp hx with hx | hx
    · exact h3 x hx
    · rw [List.mem_singleton.mp hx]; exact List.mem_range.mp hk1
theorem ord_fold {n : Nat} : ∀ (m : Nat), OrdOk n ((List.range m).foldl (fun f _ => stepOrd n f) [[]]) m ∧ ((List.range m).foldl (fun f _ => stepOrd n f) [[]]).length ≤ n ^ m
  | 0 => ⟨fun lot h => by simp at h; simp [h], by simp⟩
  | m + 1 => by
    obtain ⟨a, b⟩ := ord_fold m
    rw [List.range_succ, List.foldl_append]
    refine ⟨stepOrd_ok a, ?_⟩
    show (stepOrd n _).length ≤ _
    refine Nat.le_trans (flatMap_len fun x _ => moreOrd_len) ?_
    rw [Nat.pow_succ]
    exact Nat.mul_le_mul_right n b
theorem allOrd_ok {n : Nat} : OrdOk n (allOrd n) n := (ord_fold n).1
theorem allOrd_len {n : Nat} : (allOrd n).length ≤ n ^ n := (ord_fold n).2
theorem v_all_orders {k n : Nat} (hn : n ≤ 8) : valC (callD P (k + 1)) 8 [dn n] = some (dll (allOrd n)) := by
  rw [vc (F := f8) rfl rfl]
  simp -implicitDefEqProofs only [f8, startD, List.map_cons, List.map_nil, List.length_cons, List.length_nil, List.replicate, List.cons_append, List.nil_append, Nat.sub_self, Nat.sub_zero, Nat.zero_add, Nat.reduceAdd, Nat.reduceSub, ev_var, ev_vin, ev_mov, ev_ref, ev_int, ev_bl, ev_non, ev_str, ev_gint, ev_op, evs_nil, evs_cons, ev_and, ev_or, ev_not, ev_ite, ev_scal, ev_tall, ev_chn, ev_comp, ev_comp2, evc_nil, evc_one, bind_nm, bind_tp2, bind_tl2, bind_tp3, bind_tp4, evSs_nil, evSs_cons, evS_asg, evS_par2, evS_par3, evS_sub, evS_sub2, evS_augs, evS_ex, evS_ret, evS_retN, evS_iff, evS_pass, evS_for, evS_whl, ev_call, ev_callk, ev_app, ev_pop, ev_popi, noRef, isRef_var, isRef_vin, isRef_mov, isRef_int, isRef_bl, isRef_str, isRef_pop, isRef_not, isRef_scal, isRef_non, isRef_op, isRef_gint, isRef_and, isRef_or, isRef_ite, isRef_call, isRef_callk, isRef_app, isRef_popi, isRef_comp, isRef_comp2, isRef_tall, isRef_chn, isRef_ref, ev_callR, eva_nil, eva_ref, eva_e, fill_nil, fill_ref, fill_e, back_nil, back_ref, back_e, fin1, fin2, fin3, Option.isNone_some, Bool.false_and, aug_lst, augn, ix3_0, sx3_0, ix3_1, sx3_1, ix3_2, sx3_2, ix5_0, sx5_0, ix5_1, sx5_1, ix5_2, sx5_2, ix5_3, sx5_3, ix5_4, sx5_4, Option.isNone_none, Bool.and_self, Bool.true_and, Bool.and_true, setAt_eq, oD0, oDs, st0, sts, wipe0, wipes, Option.map_some, Option.bind_some, cont_nx, cont_rt, cond_t, cond_f, cond_bl, not_bl, tst_bl, scal_int, scal_bl, scal_str, scal_non, valO_rt, valO_nx, wipeO_nx, wipeO_rt, wipeC_some, wipeF_some, isL_lst, l0, l1, l2, l3, l4, l5, l6, l7, l8, l9, l10, l11, l12, l13, l14, l15, l16, l17, l18, l19, l20, l21, l22, l23, l24, l25, l26, l27, l28, l29, l30, l31, l32, l33, l34, l35, l36, l37, l38, l39, l40, l41, l42, l43, l44, l45, l46, l47, l48, l49, l50, l51, l52, l53, l54, l55, l56, l57, l58, l59, l60, l61, l62, l63, l64, l65, l66, l67, l68, l69, l99, l100, l101, l131, l1000, l1001, l7919, l10007, l27183, l48271, l62089, l69621, l1000003, l1140671, l27644437, l32416187, l1103515245, l2147483587, l2147483629, l2147483647, l1000000000000000000, o_lst0, o_lst1, o_lst2, o_lst3, o_lst4, o_lst5, o_lst6, o_lst7, o_lst8, o_lst9, o_lst10, o_lst11, o_lst12, o_tup2, o_tup3, o_addn, o_neg1, o_ltn, o_len', o_gtn, o_gen, o_eqn, o_nen, o_eql, o_nel, o_eqll, o_nell, o_nenl, o_nenll, o_eqnl, o_eqnll, o_len, o_len0, o_lenD, o_drop, o_take, o_takez, arr10, arr01, arr0, arr210, arr012, arr120, arr201, o_rev, o_listOf, o_listOfT, o_tupOf, List.length_map, it_list, it_tup, it_rev, it_enum, it_zip, o_allb, o_all, o_any, o_anyb, o_sum, o_srt, o_inn, o_notin, o_innl, o_notinl, o_count, o_toInt, turnB, clauseB, clauseF, if_true, if_false, Bool.false_eq_true, Bool.not_true, Bool.not_false, it_r1 (show n ≤ LIM by simp -implicitDefEqProofs only [LIM]; omega)]
  rw [forD_go (σ := List (List Nat)) (fun found => [some (dn n), some (dll found), none, none, none]) (fun f _ => stepOrd n f)
    (fun m found => OrdOk n found m ∧ found.length ≤ n ^ m) [[]] rfl ⟨fun lot h => by simp at h; simp [h], by simp⟩ (fun m found x hx I => ?_) (fun found => rfl)]
  · simp -implicitDefEqProofs only [ev_var, ev_vin, ev_mov, ev_ref, ev_int, ev_bl, ev_non, ev_str, ev_gint, ev_op, evs_nil, evs_cons, ev_and, ev_or, ev_not, ev_ite, ev_scal, ev_tall, ev_chn, ev_comp, ev_comp2, evc_nil, evc_one, bind_nm, bind_tp2, bind_tl2, bind_tp3, bind_tp4, evSs_nil, evSs_cons, evS_asg, evS_par2, evS_par3, evS_sub, evS_sub2, evS_augs, evS_ex, evS_ret, evS_retN, evS_iff, evS_pass, evS_for, evS_whl, ev_call, ev_callk, ev_app, ev_pop, ev_popi, noRef, isRef_var, isRef_vin, isRef_mov, isRef_int, isRef_bl, isRef_str, isRef_pop, isRef_not, isRef_scal, isRef_non, isRef_op, isRef_gint, isRef_and, isRef_or, isRef_ite, isRef_call, isRef_callk, isRef_app, isRef_popi, isRef_comp, isRef_comp2, isRef_tall, isRef_chn, isRef_ref, ev_callR, eva_nil, eva_ref, eva_e, fill_nil, fill_ref, fill_e, back_nil, back_ref, back_e, fin1, fin2, fin3, Option.isNone_some, Bool.false_and, aug_lst, augn, ix3_0, sx3_0, ix3_1, sx3_1, ix3_2, sx3_2, ix5_0, sx5_0, ix5_1, sx5_1, ix5_2, sx5_2, ix5_3, sx5_3, ix5_4, sx5_4, Option.isNone_none, Bool.and_self, Bool.true_and, Bool.and_true, setAt_eq, oD0, oDs, st0, sts, wipe0, wipes, Option.map_some, Option.bind_some, cont_nx, cont_rt, cond_t, cond_f, cond_bl, not_bl, tst_bl, scal_int, scal_bl, scal_str, scal_non, valO_rt, valO_nx, wipeO_nx, wipeO_rt, wipeC_some, wipeF_some, isL_lst, l0, l1, l2, l3, l4, l5, l6, l7, l8, l9, l10, l11, l12, l13, l14, l15, l16, l17, l18, l19, l20, l21, l22, l23, l24, l25, l26, l27, l28, l29, l30, l31, l32, l33, l34, l35, l36, l37, l38, l39, l40, l41, l42, l43, l44, l45, l46, l47, l48, l49, l50, l51, l52, l53, l54, l55, l56, l57, l58, l59, l60, l61, l62, l63, l64, l65, l66, l67, l68, l69, l99, l100, l101, l131, l1000, l1001, l7919, l10007, l27183, l48271, l62089, l69621, l1000003, l1140671, l27644437, l32416187, l1103515245, l2147483587, l2147483629, l2147483647, l1000000000000000000, o_lst0, o_lst1, o_lst2, o_lst3, o_lst4, o_lst5, o_lst6, o_lst7, o_lst8, o_lst9, o_lst10, o_lst11, o_lst12, o_tup2, o_tup3, o_addn, o_neg1, o_ltn, o_len', o_gtn, o_gen, o_eqn, o_nen, o_eql, o_nel, o_eqll, o_nell, o_nenl, o_nenll, o_eqnl, o_eqnll, o_len, o_len0, o_lenD, o_drop, o_take, o_takez, arr10, arr01, arr0, arr210, arr012, arr120, arr201, o_rev, o_listOf, o_listOfT, o_tupOf, List.length_map, it_list, it_tup, it_rev, it_enum, it_zip, o_allb, o_all, o_any, o_anyb, o_sum, o_srt, o_inn, o_notin, o_innl, o_notinl, o_count, o_toInt, turnB, clauseB, clauseF, if_true, if_false, Bool.false_eq_true, Bool.not_true, Bool.not_false, tall_ll (Nat.le_refl 2)]; rfl
  · have hm : m < n := by simpa using (List.getElem?_eq_some_iff.mp hx).1
    have hlim := pow_lim (t := m + 1) hn (by omega)
    rw [Nat.pow_succ] at hlim
    have hmul : found.length * n ≤ n ^ m * n := Nat.mul_le_mul_right n I.2
    refine ⟨?_, stepOrd_ok I.1, ?_⟩
    · simp -implicitDefEqProofs only [ev_var, ev_vin, ev_mov, ev_ref, ev_int, ev_bl, ev_non, ev_str, ev_gint, ev_op, evs_nil, evs_cons, ev_and, ev_or, ev_not, ev_ite, ev_scal, ev_tall, ev_chn, ev_comp, ev_comp2, evc_nil, evc_one, bind_nm, bind_tp2, bind_tl2, bind_tp3, bind_tp4, evSs_nil, evSs_cons, evS_asg, evS_par2, evS_par3, evS_sub, evS_sub2, evS_augs, evS_ex, evS_ret, evS_retN, evS_iff, evS_pass, evS_for, evS_whl, ev_call, ev_callk, ev_app, ev_pop, ev_popi, noRef, isRef_var, isRef_vin, isRef_mov, isRef_int, isRef_bl, isRef_str, isRef_pop, isRef_not, isRef_scal, isRef_non, isRef_op, isRef_gint, isRef_and, isRef_or, isRef_ite, isRef_call, isRef_callk, isRef_app, isRef_popi, isRef_comp, isRef_comp2, isRef_tall, isRef_chn, isRef_ref, ev_callR, eva_nil, eva_ref, eva_e, fill_nil, fill_ref, fill_e, back_nil, back_ref, back_e, fin1, fin2, fin3, Option.isNone_some, Bool.false_and, aug_lst, augn, ix3_0, sx3_0, ix3_1, sx3_1, ix3_2, sx3_2, ix5_0, sx5_0, ix5_1, sx5_1, ix5_2, sx5_2, ix5_3, sx5_3, ix5_4, sx5_4, Option.isNone_none, Bool.and_self, Bool.true_and, Bool.and_true, setAt_eq, oD0, oDs, st0, sts, wipe0, wipes, Option.map_some, Option.bind_some, cont_nx, cont_rt, cond_t, cond_f, cond_bl, not_bl, tst_bl, scal_int, scal_bl, scal_str, scal_non, valO_rt, valO_nx, wipeO_nx, wipeO_rt, wipeC_some, wipeF_some, isL_lst, l0, l1, l2, l3, l4, l5, l6, l7, l8, l9, l10, l11, l12, l13, l14, l15, l16, l17, l18, l19, l20, l21, l22, l23, l24, l25, l26, l27, l28, l29, l30, l31, l32, l33, l34, l35, l36, l37, l38, l39, l40, l41, l42, l43, l44, l45, l46, l47, l48, l49, l50, l51, l52, l53, l54, l55, l56, l57, l58, l59, l60, l61, l62, l63, l64, l65, l66, l67, l68, l69, l99, l100, l101, l131, l1000, l1001, l7919, l10007, l27183, l48271, l62089, l69621, l1000003, l1140671, l27644437, l32416187, l1103515245, l2147483587, l2147483629, l2147483647, l1000000000000000000, o_lst0, o_lst1, o_lst2, o_lst3, o_lst4, o_lst5, o_lst6, o_lst7, o_lst8, o_lst9, o_lst10, o_lst11, o_lst12, o_tup2, o_tup3, o_addn, o_neg1, o_ltn, o_len', o_gtn, o_gen, o_eqn, o_nen, o_eql, o_nel, o_eqll, o_nell, o_nenl, o_nenll, o_eqnl, o_eqnll, o_len, o_len0, o_lenD, o_drop, o_take, o_takez, arr10, arr01, arr0, arr210, arr012, arr120, arr201, o_rev, o_listOf, o_listOfT, o_tupOf, List.length_map, it_list, it_tup, it_rev, it_enum, it_zip, o_allb, o_all, o_any, o_anyb, o_sum, o_srt, o_inn, o_notin, o_innl, o_notinl, o_count, o_toInt, turnB, clauseB, clauseF, if_true, if_false, Bool.false_eq_true, Bool.not_true, Bool.not_false]
      rw [compF_map (moreOrd n · |>.map dl) n (by rfl) (fun row hr => by rw [List.length_map]; exact moreOrd_len) (fun row hr acc ha => ?_) (by simp only [List.length_nil]; omega)]
      · simp -implicitDefEqProofs only [ev_var, ev_vin, ev_mov, ev_ref, ev_int, ev_bl, ev_non, ev_str, ev_gint, ev_op, evs_nil, evs_cons, ev_and, ev_or, ev_not, ev_ite, ev_scal, ev_tall, ev_chn, ev_comp, ev_comp2, evc_nil, evc_one, bind_nm, bind_tp2, bind_tl2, bind_tp3, bind_tp4, evSs_nil, evSs_cons, evS_asg, evS_par2, evS_par3, evS_sub, evS_sub2, evS_augs, evS_ex, evS_ret, evS_retN, evS_iff, evS_pass, evS_for, evS_whl, ev_call, ev_callk, ev_app, ev_pop, ev_popi, noRef, isRef_var, isRef_vin, isRef_mov, isRef_int, isRef_bl, isRef_str, isRef_pop, isRef_not, isRef_scal, isRef_non, isRef_op, isRef_gint, isRef_and, isRef_or, isRef_ite, isRef_call, isRef_callk, isRef_app, isRef_popi, isRef_comp, isRef_comp2, isRef_tall, isRef_chn, isRef_ref, ev_callR, eva_nil, eva_ref, eva_e, fill_nil, fill_ref, fill_e, back_nil, back_ref, back_e, fin1, fin2, fin3, Option.isNone_some, Bool.false_and, aug_lst, augn, ix3_0, sx3_0, ix3_1, sx3_1, ix3_2, sx3_2, ix5_0, sx5_0, ix5_1, sx5_1, ix5_2, sx5_2, ix5_3, sx5_3, ix5_4, sx5_4, Option.isNone_none, Bool.and_self, Bool.true_and, Bool.and_true, setAt_eq, oD0, oDs, st0, sts, wipe0, wipes, Option.map_some, Option.bind_some, cont_nx, cont_rt, cond_t, cond_f, cond_bl, not_bl, tst_bl, scal_int, scal_bl, scal_str, scal_non, valO_rt, valO_nx, wipeO_nx, wipeO_rt, wipeC_some, wipeF_some, isL_lst, l0, l1, l2, l3, l4, l5, l6, l7, l8, l9, l10, l11, l12, l13, l14, l15, l16, l17, l18, l19, l20, l21, l22, l23, l24, l25, l26, l27, l28, l29, l30, l31, l32, l33, l34, l35, l36, l37, l38, l39, l40, l41, l42, l43, l44, l45, l46, l47, l48, l49, l50, l51, l52, l53, l54, l55, l56, l57, l58, l59, l60, l61, l62, l63, l64, l65, l66, l67, l68, l69, l99, l100, l101, l131, l1000, l1001, l7919, l10007, l27183, l48271, l62089, l69621, l1000003, l1140671, l27644437, l32416187, l1103515245, l2147483587, l2147483629, l2147483647, l1000000000000000000, o_lst0, o_lst1, o_lst2, o_lst3, o_lst4, o_lst5, o_lst6, o_lst7, o_lst8, o_lst9, o_lst10, o_lst11, o_lst12, o_tup2, o_tup3, o_addn, o_neg1, o_ltn, o_len', o_gtn, o_gen, o_eqn, o_nen, o_eql, o_nel, o_eqll, o_nell, o_nenl, o_nenll, o_eqnl, o_eqnll, o_len, o_len0, o_lenD, o_drop, o_take, o_takez, arr10, arr01, arr0, arr210, arr012, arr120, arr201, o_rev, o_listOf, o_listOfT, o_tupOf, List.length_map, it_list, it_tup, it_rev, it_enum, it_zip, o_allb, o_all, o_any, o_anyb, o_sum, o_srt, o_inn, o_notin, o_innl, o_notinl, o_count, o_toInt, turnB, clauseB, clauseF, if_true, if_false, Bool.false_eq_true, Bool.not_true, Bool.not_false, List.nil_append, stepOrd, dll, List.map_flatMap]
      · simp -implicitDefEqProofs only [ev_var, ev_vin, ev_mov, ev_ref, ev_int, ev_bl, ev_non, ev_str, ev_gint, ev_op, evs_nil, evs_cons, ev_and, ev_or, ev_not, ev_ite, ev_scal, ev_tall, ev_chn, ev_comp, ev_comp2, evc_nil, evc_one, bind_nm, bind_tp2, bind_tl2, bind_tp3, bind_tp4, evSs_nil, evSs_cons, evS_asg, evS_par2, evS_par3, evS_sub, evS_sub2, evS_augs, evS_ex, evS_ret, evS_retN, evS_iff, evS_pass, evS_for, evS_whl, ev_call, ev_callk, ev_app, ev_pop, ev_popi, noRef, isRef_var, isRef_vin, isRef_mov, isRef_int, isRef_bl, isRef_str, isRef_pop, isRef_not, isRef_scal, isRef_non, isRef_op, isRef_gint, isRef_and, isRef_or, isRef_ite, isRef_call, isRef_callk, isRef_app, isRef_popi, isRef_comp, isRef_comp2, isRef_tall, isRef_chn, isRef_ref, ev_callR, eva_nil, eva_ref, eva_e, fill_nil, fill_ref, fill_e, back_nil, back_ref, back_e, fin1, fin2, fin3, Option.isNone_some, Bool.false_and, aug_lst, augn, ix3_0, sx3_0, ix3_1, sx3_1, ix3_2, sx3_2, ix5_0, sx5_0, ix5_1, sx5_1, ix5_2, sx5_2, ix5_3, sx5_3, ix5_4, sx5_4, Option.isNone_none, Bool.and_self, Bool.true_and, Bool.and_true, setAt_eq, oD0, oDs, st0, sts, wipe0, wipes, Option.map_some, Option.bind_some, cont_nx, cont_rt, cond_t, cond_f, cond_bl, not_bl, tst_bl, scal_int, scal_bl, scal_str, scal_non, valO_rt, valO_nx, wipeO_nx, wipeO_rt, wipeC_some, wipeF_some, isL_lst, l0, l1, l2, l3, l4, l5, l6, l7, l8, l9, l10, l11, l12, l13, l14, l15, l16, l17, l18, l19, l20, l21, l22, l23, l24, l25, l26, l27, l28, l29, l30, l31, l32, l33, l34, l35, l36, l37, l38, l39, l40, l41, l42, l43, l44, l45, l46, l47, l48, l49, l50, l51, l52, l53, l54, l55, l56, l57, l58, l59, l60, l61, l62, l63, l64, l65, l66, l67, l68, l69, l99, l100, l101, l131, l1000, l1001, l7919, l10007, l27183, l48271, l62089, l69621, l1000003, l1140671, l27644437, l32416187, l1103515245, l2147483587, l2147483629, l2147483647, l1000000000000000000, o_lst0, o_lst1, o_lst2, o_lst3, o_lst4, o_lst5, o_lst6, o_lst7, o_lst8, o_lst9, o_lst10, o_lst11, o_lst12, o_tup2, o_tup3, o_addn, o_neg1, o_ltn, o_len', o_gtn, o_gen, o_eqn, o_nen, o_eql, o_nel, o_eqll, o_nell, o_nenl, o_nenll, o_eqnl, o_eqnll, o_len, o_len0, o_lenD, o_drop, o_take, o_takez, arr10, arr01, arr0, arr210, arr012, arr120, arr201, o_rev, o_listOf, o_listOfT, o_tupOf, List.length_map, it_list, it_tup, it_rev, it_enum, it_zip, o_allb, o_all, o_any, o_anyb, o_sum, o_srt, o_inn, o_notin, o_innl, o_notinl, o_count, o_toInt, turnB, clauseB, clauseF, if_true, if_false, Bool.false_eq_true, Bool.not_true, Bool.not_false, it_r1 (show n ≤ LIM by simp -implicitDefEqProofs only [LIM]; omega)]
        rw [compD_some (fun v => !decide (v ∈ row)) (fun v => dl (row ++ [v])) (by rfl) (fun v hv => ?_) (by rw [List.length_range]; omega)]
        · simp -implicitDefEqProofs only [ev_var, ev_vin, ev_mov, ev_ref, ev_int, ev_bl, ev_non, ev_str, ev_gint, ev_op, evs_nil, evs_cons, ev_and, ev_or, ev_not, ev_ite, ev_scal, ev_tall, ev_chn, ev_comp, ev_comp2, evc_nil, evc_one, bind_nm, bind_tp2, bind_tl2, bind_tp3, bind_tp4, evSs_nil, evSs_cons, evS_asg, evS_par2, evS_par3, evS_sub, evS_sub2, evS_augs, evS_ex, evS_ret, evS_retN, evS_iff, evS_pass, evS_for, evS_whl, ev_call, ev_callk, ev_app, ev_pop, ev_popi, noRef, isRef_var, isRef_vin, isRef_mov, isRef_int, isRef_bl, isRef_str, isRef_pop, isRef_not, isRef_scal, isRef_non, isRef_op, isRef_gint, isRef_and, isRef_or, isRef_ite, isRef_call, isRef_callk, isRef_app, isRef_popi, isRef_comp, isRef_comp2, isRef_tall, isRef_chn, isRef_ref, ev_callR, eva_nil, eva_ref, eva_e, fill_nil, fill_ref, fill_e, back_nil, back_ref, back_e, fin1, fin2, fin3, Option.isNone_some, Bool.false_and, aug_lst, augn, ix3_0, sx3_0, ix3_1, sx3_1, ix3_2, sx3_2, ix5_0, sx5_0, ix5_1, sx5_1, ix5_2, sx5_2, ix5_3, sx5_3, ix5_4, sx5_4, Option.isNone_none, Bool.and_self, Bool.true_and, Bool.and_true, setAt_eq, oD0, oDs, st0, sts, wipe0, wipes, Option.map_some, Option.bind_some, cont_nx, cont_rt, cond_t, cond_f, cond_bl, not_bl, tst_bl, scal_int, scal_bl, scal_str, scal_non, valO_rt, valO_nx, wipeO_nx, wipeO_rt, wipeC_some, wipeF_some, isL_lst, l0, l1, l2, l3, l4, l5, l6, l7, l8, l9, l10, l11, l12, l13, l14, l15, l16, l17, l18, l19, l20, l21, l22, l23, l24, l25, l26, l27, l28, l29, l30, l31, l32, l33, l34, l35, l36, l37, l38, l39, l40, l41, l42, l43, l44, l45, l46, l47, l48, l49, l50, l51, l52, l53, l54, l55, l56, l57, l58, l59, l60, l61, l62, l63, l64, l65, l66, l67, l68, l69, l99, l100, l101, l131, l1000, l1001, l7919, l10007, l27183, l48271, l62089, l69621, l1000003, l1140671, l27644437, l32416187, l1103515245, l2147483587, l2147483629, l2147483647, l1000000000000000000, o_lst0, o_lst1, o_lst2, o_lst3, o_lst4, o_lst5, o_lst6, o_lst7, o_lst8, o_lst9, o_lst10, o_lst11, o_lst12, o_tup2, o_tup3, o_addn, o_neg1, o_ltn, o_len', o_gtn, o_gen, o_eqn, o_nen, o_eql, o_nel, o_eqll, o_nell, o_nenl, o_nenll, o_eqnl, o_eqnll, o_len, o_len0, o_lenD, o_drop, o_take, o_takez, arr10, arr01, arr0, arr210, arr012, arr120, arr201, o_rev, o_listOf, o_listOfT, o_tupOf, List.length_map, it_list, it_tup, it_rev, it_enum, it_zip, o_allb, o_all, o_any, o_anyb, o_sum, o_srt, o_inn, o_notin, o_innl, o_notinl, o_count, o_toInt, turnB, clauseB, clauseF, if_true, if_false, Bool.false_eq_true, Bool.not_true, Bool.not_false, moreOrd, List.map_map]; rfl
        · have hl : row.length + 1 ≤ LIM := by
            have := (I.1 row hr).1
            simp only [LIM]; omega
          by_cases c : v ∈ row
          · simp -implicitDefEqProofs only [ev_var, ev_vin, ev_mov, ev_ref, ev_int, ev_bl, ev_non, ev_str, ev_gint, ev_op, evs_nil, evs_cons, ev_and, ev_or, ev_not, ev_ite, ev_scal, ev_tall, ev_chn, ev_comp, ev_comp2, evc_nil, evc_one, bind_nm, bind_tp2, bind_tl2, bind_tp3, bind_tp4, evSs_nil, evSs_cons, evS_asg, evS_par2, evS_par3, evS_sub, evS_sub2, evS_augs, evS_ex, evS_ret, evS_retN, evS_iff, evS_pass, evS_for, evS_whl, ev_call, ev_callk, ev_app, ev_pop, ev_popi, noRef, isRef_var, isRef_vin, isRef_mov, isRef_int, isRef_bl, isRef_str, isRef_pop, isRef_not, isRef_scal, isRef_non, isRef_op, isRef_gint, isRef_and, isRef_or, isRef_ite, isRef_call, isRef_callk, isRef_app, isRef_popi, isRef_comp, isRef_comp2, isRef_tall, isRef_chn, isRef_ref, ev_callR, eva_nil, eva_ref, eva_e, fill_nil, fill_ref, fill_e, back_nil, back_ref, back_e, fin1, fin2, fin3, Option.isNone_some, Bool.false_and, aug_lst, augn, ix3_0, sx3_0, ix3_1, sx3_1, ix3_2, sx3_2, ix5_0, sx5_0, ix5_1, sx5_1, ix5_2, sx5_2, ix5_3, sx5_3, ix5_4, sx5_4, Option.isNone_none, Bool.and_self, Bool.true_and, Bool.and_true, setAt_eq, oD0, oDs, st0, sts, wipe0, wipes, Option.map_some, Option.bind_some, cont_nx, cont_rt, cond_t, cond_f, cond_bl, not_bl, tst_bl, scal_int, scal_bl, scal_str, scal_non, valO_rt, valO_nx, wipeO_nx, wipeO_rt, wipeC_some, wipeF_some, isL_lst, l0, l1, l2, l3, l4, l5, l6, l7, l8, l9, l10, l11, l12, l13, l14, l15, l16, l17, l18, l19, l20, l21, l22, l23, l24, l25, l26, l27, l28, l29, l30, l31, l32, l33, l34, l35, l36, l37, l38, l39, l40, l41, l42, l43, l44, l45, l46, l47, l48, l49, l50, l51, l52, l53, l54, l55, l56, l57, l58, l59, l60, l61, l62, l63, l64, l65, l66, l67, l68, l69, l99, l100, l101, l131, l1000, l1001, l7919, l10007, l27183, l48271, l62089, l69621, l1000003, l1140671, l27644437, l32416187, l1103515245, l2147483587, l2147483629, l2147483647, l1000000000000000000, o_lst0, o_lst1, o_lst2, o_lst3, o_lst4, o_lst5, o_lst6, o_lst7, o_lst8, o_lst9, o_lst10, o_lst11, o_lst12, o_tup2, o_tup3, o_addn, o_neg1, o_ltn, o_len', o_gtn, o_gen, o_eqn, o_nen, o_eql, o_nel, o_eqll, o_nell, o_nenl, o_nenll, o_eqnl, o_eqnll, o_len, o_len0, o_lenD, o_drop, o_take, o_takez, arr10, arr01, arr0, arr210, arr012, arr120, arr201, o_rev, o_listOf, o_listOfT, o_tupOf, List.length_map, it_list, it_tup, it_rev, it_enum, it_zip, o_allb, o_all, o_any, o_anyb, o_sum, o_srt, o_inn, o_notin, o_innl, o_notinl, o_count, o_toInt, turnB, clauseB, clauseF, if_true, if_false, Bool.false_eq_true, Bool.not_true, Bool.not_false, c, decide_true]
          · simp -implicitDefEqProofs only [ev_var, ev_vin, ev_mov, ev_ref, ev_int, ev_bl, ev_non, ev_str, ev_gint, ev_op, evs_nil, evs_cons, ev_and, ev_or, ev_not, ev_ite, ev_scal, ev_tall, ev_chn, ev_comp, ev_comp2, evc_nil, evc_one, bind_nm, bind_tp2, bind_tl2, bind_tp3, bind_tp4, evSs_nil, evSs_cons, evS_asg, evS_par2, evS_par3, evS_sub, evS_sub2, evS_augs, evS_ex, evS_ret, evS_retN, evS_iff, evS_pass, evS_for, evS_whl, ev_call, ev_callk, ev_app, ev_pop, ev_popi, noRef, isRef_var, isRef_vin, isRef_mov, isRef_int, isRef_bl, isRef_str, isRef_pop, isRef_not, isRef_scal, isRef_non, isRef_op, isRef_gint, isRef_and, isRef_or, isRef_ite, isRef_call, isRef_callk, isRef_app, isRef_popi, isRef_comp, isRef_comp2, isRef_tall, isRef_chn, isRef_ref, ev_callR, eva_nil, eva_ref, eva_e, fill_nil, fill_ref, fill_e, back_nil, back_ref, back_e, fin1, fin2, fin3, Option.isNone_some, Bool.false_and, aug_lst, augn, ix3_0, sx3_0, ix3_1, sx3_1, ix3_2, sx3_2, ix5_0, sx5_0, ix5_1, sx5_1, ix5_2, sx5_2, ix5_3, sx5_3, ix5_4, sx5_4, Option.isNone_none, Bool.and_self, Bool.true_and, Bool.and_true, setAt_eq, oD0, oDs, st0, sts, wipe0, wipes, Option.map_some, Option.bind_some, cont_nx, cont_rt, cond_t, cond_f, cond_bl, not_bl, tst_bl, scal_int, scal_bl, scal_str, scal_non, valO_rt, valO_nx, wipeO_nx, wipeO_rt, wipeC_some, wipeF_some, isL_lst, l0, l1, l2, l3, l4, l5, l6, l7, l8, l9, l10, l11, l12, l13, l14, l15, l16, l17, l18, l19, l20, l21, l22, l23, l24, l25, l26, l27, l28, l29, l30, l31, l32, l33, l34, l35, l36, l37, l38, l39, l40, l41, l42, l43, l44, l45, l46, l47, l48, l49, l50, l51, l52, l53, l54, l55, l56, l57, l58, l59, l60, l61, l62, l63, l64, l65, l66, l67, l68, l69, l99, l100, l101, l131, l1000, l1001, l7919, l10007, l27183, l48271, l62089, l69621, l1000003, l1140671, l27644437, l32416187, l1103515245, l2147483587, l2147483629, l2147483647, l1000000000000000000, o_lst0, o_lst1, o_lst2, o_lst3, o_lst4, o_lst5, o_lst6, o_lst7, o_lst8, o_lst9, o_lst10, o_lst11, o_lst12, o_tup2, o_tup3, o_addn, o_neg1, o_ltn, o_len', o_gtn, o_gen, o_eqn, o_nen, o_eql, o_nel, o_eqll, o_nell, o_nenl, o_nenll, o_eqnl, o_eqnll, o_len, o_len0, o_lenD, o_drop, o_take, o_takez, arr10, arr01, arr0, arr210, arr012, arr120, arr201, o_rev, o_listOf, o_listOfT, o_tupOf, List.length_map, it_list, it_tup, it_rev, it_enum, it_zip, o_allb, o_all, o_any, o_anyb, o_sum, o_srt, o_inn, o_notin, o_innl, o_notinl, o_count, o_toInt, turnB, clauseB, clauseF, if_true, if_false, Bool.false_eq_true, Bool.not_true, Bool.not_false, c, decide_false, o_cat1 (f := dn) hl]
    · refine Nat.le_trans (flatMap_len fun x _ => moreOrd_len) ?_
      rw [Nat.pow_succ]
      exact hmul
theorem v_law_orders {k n : Nat} (hn : n ≤ 8) : valC (callD P (k + 1)) 17 [dn n] = some (dll (allOrd n)) := by
  rw [vc (F := f17) rfl rfl]
  simp -implicitDefEqProofs only [f17, startD, List.map_cons, List.map_nil, List.length_cons, List.length_nil, List.replicate, List.cons_append, List.nil_append, Nat.sub_self, Nat.sub_zero, Nat.zero_add, Nat.reduceAdd, Nat.reduceSub, ev_var, ev_vin, ev_mov, ev_ref, ev_int, ev_bl, ev_non, ev_str, ev_gint, ev_op, evs_nil, evs_cons, ev_and, ev_or, ev_not, ev_ite, ev_scal, ev_tall, ev_chn, ev_comp, ev_comp2, evc_nil, evc_one, bind_nm, bind_tp2, bind_tl2, bind_tp3, bind_tp4, evSs_nil, evSs_cons, evS_asg, evS_par2, evS_par3, evS_sub, evS_sub2, evS_augs, evS_ex, evS_ret, evS_retN, evS_iff, evS_pass, evS_for, evS_whl, ev_call, ev_callk, ev_app, ev_pop, ev_popi, noRef, isRef_var, isRef_vin, isRef_mov, isRef_int, isRef_bl, isRef_str, isRef_pop, isRef_not, isRef_scal, isRef_non, isRef_op, isRef_gint, isRef_and, isRef_or, isRef_ite, isRef_call, isRef_callk, isRef_app, isRef_popi, isRef_comp, isRef_comp2, isRef_tall, isRef_chn, isRef_ref, ev_callR, eva_nil, eva_ref, eva_e, fill_nil, fill_ref, fill_e, back_nil, back_ref, back_e, fin1, fin2, fin3, Option.isNone_some, Bool.false_and, aug_lst, augn, ix3_0, sx3_0, ix3_1, sx3_1, ix3_2, sx3_2, ix5_0, sx5_0, ix5_1, sx5_1, ix5_2, sx5_2, ix5_3, sx5_3, ix5_4, sx5_4, Option.isNone_none, Bool.and_self, Bool.true_and, Bool.and_true, setAt_eq, oD0, oDs, st0, sts, wipe0, wipes, Option.map_some, Option.bind_some, cont_nx, cont_rt, cond_t, cond_f, cond_bl, not_bl, tst_bl, scal_int, scal_bl, scal_str, scal_non, valO_rt, valO_nx, wipeO_nx, wipeO_rt, wipeC_some, wipeF_some, isL_lst, l0, l1, l2, l3, l4, l5, l6, l7, l8, l9, l10, l11, l12, l13, l14, l15, l16, l17, l18, l19, l20, l21, l22, l23, l24, l25, l26, l27, l28, l29, l30, l31, l32, l33, l34, l35, l36, l37, l38, l39, l40, l41, l42, l43, l44, l45, l46, l47, l48, l49, l50, l51, l52, l53, l54, l55, l56, l57, l58, l59, l60, l61, l62, l63, l64, l65, l66, l67, l68, l69, l99, l100, l101, l131, l1000, l1001, l7919, l10007, l27183, l48271, l62089, l69621, l1000003, l1140671, l27644437, l32416187, l1103515245, l2147483587, l2147483629, l2147483647, l1000000000000000000, o_lst0, o_lst1, o_lst2, o_lst3, o_lst4, o_lst5, o_lst6, o_lst7, o_lst8, o_lst9, o_lst10, o_lst11, o_lst12, o_tup2, o_tup3, o_addn, o_neg1, o_ltn, o_len', o_gtn, o_gen, o_eqn, o_nen, o_eql, o_nel, o_eqll, o_nell, o_nenl, o_nenll, o_eqnl, o_eqnll, o_len, o_len0, o_lenD, o_drop, o_take, o_takez, arr10, arr01, arr0, arr210, arr012, arr120, arr201, o_rev, o_listOf, o_listOfT, o_tupOf, List.length_map, it_list, it_tup, it_rev, it_enum, it_zip, o_allb, o_all, o_any, o_anyb, o_sum, o_srt, o_inn, o_notin, o_innl, o_notinl, o_count, o_toInt, turnB, clauseB, clauseF, if_true, if_false, Bool.false_eq_true, Bool.not_true, Bool.not_false, it_r1 (show n ≤ LIM by simp -implicitDefEqProofs only [LIM]; omega)]
  rw [forD_go (σ := List (List Nat)) (fun found => [some (dn n), some (dll found), none, none, none, none]) (fun f _ => stepOrd n f)
    (fun m found => OrdOk n found m ∧ found.length ≤ n ^ m) [[]] rfl ⟨fun lot h => by simp at h; simp [h], by simp⟩ (fun m found x hx I => ?_) (fun found => rfl)]
  · simp -implicitDefEqProofs only [ev_var, ev_vin, ev_mov, ev_ref, ev_int, ev_bl, ev_non, ev_str, ev_gint, ev_op, evs_nil, evs_cons, ev_and, ev_or, ev_not, ev_ite, ev_scal, ev_tall, ev_chn, ev_comp, ev_comp2, evc_nil, evc_one, bind_nm, bind_tp2, bind_tl2, bind_tp3, bind_tp4, evSs_nil, evSs_cons, evS_asg, evS_par2, evS_par3, evS_sub, evS_sub2, evS_augs, evS_ex, evS_ret, evS_retN, evS_iff, evS_pass, evS_for, evS_whl, ev_call, ev_callk, ev_app, ev_pop, ev_popi, noRef, isRef_var, isRef_vin, isRef_mov, isRef_int, isRef_bl, isRef_str, isRef_pop, isRef_not, isRef_scal, isRef_non, isRef_op, isRef_gint, isRef_and, isRef_or, isRef_ite, isRef_call, isRef_callk, isRef_app, isRef_popi, isRef_comp, isRef_comp2, isRef_tall, isRef_chn, isRef_ref, ev_callR, eva_nil, eva_ref, eva_e, fill_nil, fill_ref, fill_e, back_nil, back_ref, back_e, fin1, fin2, fin3, Option.isNone_some, Bool.false_and, aug_lst, augn, ix3_0, sx3_0, ix3_1, sx3_1, ix3_2, sx3_2, ix5_0, sx5_0, ix5_1, sx5_1, ix5_2, sx5_2, ix5_3, sx5_3, ix5_4, sx5_4, Option.isNone_none, Bool.and_self, Bool.true_and, Bool.and_true, setAt_eq, oD0, oDs, st0, sts, wipe0, wipes, Option.map_some, Option.bind_some, cont_nx, cont_rt, cond_t, cond_f, cond_bl, not_bl, tst_bl, scal_int, scal_bl, scal_str, scal_non, valO_rt, valO_nx, wipeO_nx, wipeO_rt, wipeC_some, wipeF_some, isL_lst, l0, l1, l2, l3, l4, l5, l6, l7, l8, l9, l10, l11, l12, l13, l14, l15, l16, l17, l18, l19, l20, l21, l22, l23, l24, l25, l26, l27, l28, l29, l30, l31, l32, l33, l34, l35, l36, l37, l38, l39, l40, l41, l42, l43, l44, l45, l46, l47, l48, l49, l50, l51, l52, l53, l54, l55, l56, l57, l58, l59, l60, l61, l62, l63, l64, l65, l66, l67, l68, l69, l99, l100, l101, l131, l1000, l1001, l7919, l10007, l27183, l48271, l62089, l69621, l1000003, l1140671, l27644437, l32416187, l1103515245, l2147483587, l2147483629, l2147483647, l1000000000000000000, o_lst0, o_lst1, o_lst2, o_lst3, o_lst4, o_lst5, o_lst6, o_lst7, o_lst8, o_lst9, o_lst10, o_lst11, o_lst12, o_tup2, o_tup3, o_addn, o_neg1, o_ltn, o_len', o_gtn, o_gen, o_eqn, o_nen, o_eql, o_nel, o_eqll, o_nell, o_nenl, o_nenll, o_eqnl, o_eqnll, o_len, o_len0, o_lenD, o_drop, o_take, o_takez, arr10, arr01, arr0, arr210, arr012, arr120, arr201, o_rev, o_listOf, o_listOfT, o_tupOf, List.length_map, it_list, it_tup, it_rev, it_enum, it_zip, o_allb, o_all, o_any, o_anyb, o_sum, o_srt, o_inn, o_notin, o_innl, o_notinl, o_count, o_toInt, turnB, clauseB, clauseF, if_true, if_false, Bool.false_eq_true, Bool.not_true, Bool.not_false, tall_ll (Nat.le_refl 2)]; rfl
  · have hm : m < n := by simpa using (List.getElem?_eq_some_iff.mp hx).1
    have hlim := pow_lim (t := m + 1) hn (by omega)
    rw [Nat.pow_succ] at hlim
    have hmul : found.length * n ≤ n ^ m * n := Nat.mul_le_mul_right n I.2
    refine ⟨?_, stepOrd_ok I.1, ?_⟩
    · simp -implicitDefEqProofs only [ev_var, ev_vin, ev_mov, ev_ref, ev_int, ev_bl, ev_non, ev_str, ev_gint, ev_op, evs_nil, evs_cons, ev_and, ev_or, ev_not, ev_ite, ev_scal, ev_tall, ev_chn, ev_comp, ev_comp2, evc_nil, evc_one, bind_nm, bind_tp2, bind_tl2, bind_tp3, bind_tp4, evSs_nil, evSs_cons, evS_asg, evS_par2, evS_par3, evS_sub, evS_sub2, evS_augs, evS_ex, evS_ret, evS_retN, evS_iff, evS_pass, evS_for, evS_whl, ev_call, ev_callk, ev_app, ev_pop, ev_popi, noRef, isRef_var, isRef_vin, isRef_mov, isRef_int, isRef_bl, isRef_str, isRef_pop, isRef_not, isRef_scal, isRef_non, isRef_op, isRef_gint, isRef_and, isRef_or, isRef_ite, isRef_call, isRef_callk, isRef_app, isRef_popi, isRef_comp, isRef_comp2, isRef_tall, isRef_chn, isRef_ref, ev_callR, eva_nil, eva_ref, eva_e, fill_nil, fill_ref, fill_e, back_nil, back_ref, back_e, fin1, fin2, fin3, Option.isNone_some, Bool.false_and, aug_lst, augn, ix3_0, sx3_0, ix3_1, sx3_1, ix3_2, sx3_2, ix5_0, sx5_0, ix5_1, sx5_1, ix5_2, sx5_2, ix5_3, sx5_3, ix5_4, sx5_4, Option.isNone_none, Bool.and_self, Bool.true_and, Bool.and_true, setAt_eq, oD0, oDs, st0, sts, wipe0, wipes, Option.map_some, Option.bind_some, cont_nx, cont_rt, cond_t, cond_f, cond_bl, not_bl, tst_bl, scal_int, scal_bl, scal_str, scal_non, valO_rt, valO_nx, wipeO_nx, wipeO_rt, wipeC_some, wipeF_some, isL_lst, l0, l1, l2, l3, l4, l5, l6, l7, l8, l9, l10, l11, l12, l13, l14, l15, l16, l17, l18, l19, l20, l21, l22, l23, l24, l25, l26, l27, l28, l29, l30, l31, l32, l33, l34, l35, l36, l37, l38, l39, l40, l41, l42, l43, l44, l45, l46, l47, l48, l49, l50, l51, l52, l53, l54, l55, l56, l57, l58, l59, l60, l61, l62, l63, l64, l65, l66, l67, l68, l69, l99, l100, l101, l131, l1000, l1001, l7919, l10007, l27183, l48271, l62089, l69621, l1000003, l1140671, l27644437, l32416187, l1103515245, l2147483587, l2147483629, l2147483647, l1000000000000000000, o_lst0, o_lst1, o_lst2, o_lst3, o_lst4, o_lst5, o_lst6, o_lst7, o_lst8, o_lst9, o_lst10, o_lst11, o_lst12, o_tup2, o_tup3, o_addn, o_neg1, o_ltn, o_len', o_gtn, o_gen, o_eqn, o_nen, o_eql, o_nel, o_eqll, o_nell, o_nenl, o_nenll, o_eqnl, o_eqnll, o_len, o_len0, o_lenD, o_drop, o_take, o_takez, arr10, arr01, arr0, arr210, arr012, arr120, arr201, o_rev, o_listOf, o_listOfT, o_tupOf, List.length_map, it_list, it_tup, it_rev, it_enum, it_zip, o_allb, o_all, o_any, o_anyb, o_sum, o_srt, o_inn, o_notin, o_innl, o_notinl, o_count, o_toInt, turnB, clauseB, clauseF, if_true, if_false, Bool.false_eq_true, Bool.not_true, Bool.not_false]
      rw [forD_go (σ := List (List Nat)) (fun longer => [some (dn n), some (dll found), some (dn x), some (dll longer), none, none]) (fun a row => a ++ moreOrd n row)
        (fun j longer => longer.length ≤ j * n) [] rfl (by simp) (fun j longer row hl J => ?_) (fun longer => rfl)]
      · simp -implicitDefEqProofs only [ev_var, ev_vin, ev_mov, ev_ref, ev_int, ev_bl, ev_non, ev_str, ev_gint, ev_op, evs_nil, evs_cons, ev_and, ev_or, ev_not, ev_ite, ev_scal, ev_tall, ev_chn, ev_comp, ev_comp2, evc_nil, evc_one, bind_nm, bind_tp2, bind_tl2, bind_tp3, bind_tp4, evSs_nil, evSs_cons, evS_asg, evS_par2, evS_par3, evS_sub, evS_sub2, evS_augs, evS_ex, evS_ret, evS_retN, evS_iff, evS_pass, evS_for, evS_whl, ev_call, ev_callk, ev_app, ev_pop, ev_popi, noRef, isRef_var, isRef_vin, isRef_mov, isRef_int, isRef_bl, isRef_str, isRef_pop, isRef_not, isRef_scal, isRef_non, isRef_op, isRef_gint, isRef_and, isRef_or, isRef_ite, isRef_call, isRef_callk, isRef_app, isRef_popi, isRef_comp, isRef_comp2, isRef_tall, isRef_chn, isRef_ref, ev_callR, eva_nil, eva_ref, eva_e, fill_nil, fill_ref, fill_e, back_nil, back_ref, back_e, fin1, fin2, fin3, Option.isNone_some, Bool.false_and, aug_lst, augn, ix3_0, sx3_0, ix3_1, sx3_1, ix3_2, sx3_2, ix5_0, sx5_0, ix5_1, sx5_1, ix5_2, sx5_2, ix5_3, sx5_3, ix5_4, sx5_4, Option.isNone_none, Bool.and_self, Bool.true_and, Bool.and_true, setAt_eq, oD0, oDs, st0, sts, wipe0, wipes, Option.map_some, Option.bind_some, cont_nx, cont_rt, cond_t, cond_f, cond_bl, not_bl, tst_bl, scal_int, scal_bl, scal_str, scal_non, valO_rt, valO_nx, wipeO_nx, wipeO_rt, wipeC_some, wipeF_some, isL_lst, l0, l1, l2, l3, l4, l5, l6, l7, l8, l9, l10, l11, l12, l13, l14, l15, l16, l17, l18, l19, l20, l21, l22, l23, l24, l25, l26, l27, l28, l29, l30, l31, l32, l33, l34, l35, l36, l37, l38, l39, l40, l41, l42, l43, l44, l45, l46, l47, l48, l49, l50, l51, l52, l53, l54, l55, l56, l57, l58, l59, l60, l61, l62, l63, l64, l65, l66, l67, l68, l69, l99, l100, l101, l131, l1000, l1001, l7919, l10007, l27183, l48271, l62089, l69621, l1000003, l1140671, l27644437, l32416187, l1103515245, l2147483587, l2147483629, l2147483647, l1000000000000000000, o_lst0, o_lst1, o_lst2, o_lst3, o_lst4, o_lst5, o_lst6, o_lst7, o_lst8, o_lst9, o_lst10, o_lst11, o_lst12, o_tup2, o_tup3, o_addn, o_neg1, o_ltn, o_len', o_gtn, o_gen, o_eqn, o_nen, o_eql, o_nel, o_eqll, o_nell, o_nenl, o_nenll, o_eqnl, o_eqnll, o_len, o_len0, o_lenD, o_drop, o_take, o_takez, arr10, arr01, arr0, arr210, arr012, arr120, arr201, o_rev, o_listOf, o_listOfT, o_tupOf, List.length_map, it_list, it_tup, it_rev, it_enum, it_zip, o_allb, o_all, o_any, o_anyb, o_sum, o_srt, o_inn, o_notin, o_innl, o_notinl, o_count, o_toInt, turnB, clauseB, clauseF, if_true, if_false, Bool.false_eq_true, Bool.not_true, Bool.not_false, foldl_flatMap, List.nil_append]; rfl
      · obtain ⟨l1, l2, l3⟩ := I.1 row (List.mem_of_getElem? hl)
        have hj : j < found.length := (List.getElem?_eq_some_iff.mp hl).1
        have hj2 : (j + 1) * n ≤ found.length * n := Nat.mul_le_mul_right n hj
        rw [Nat.succ_mul] at hj2 ⊢
        have lm := moreOrd_len (n := n) (row := row)
        refine ⟨?_, by rw [List.length_append]; omega⟩
        simp -implicitDefEqProofs only [ev_var, ev_vin, ev_mov, ev_ref, ev_int, ev_bl, ev_non, ev_str, ev_gint, ev_op, evs_nil, evs_cons, ev_and, ev_or, ev_not, ev_ite, ev_scal, ev_tall, ev_chn, ev_comp, ev_comp2, evc_nil, evc_one, bind_nm, bind_tp2, bind_tl2, bind_tp3, bind_tp4, evSs_nil, evSs_cons, evS_asg, evS_par2, evS_par3, evS_sub, evS_sub2, evS_augs, evS_ex, evS_ret, evS_retN, evS_iff, evS_pass, evS_for, evS_whl, ev_call, ev_callk, ev_app, ev_pop, ev_popi, noRef, isRef_var, isRef_vin, isRef_mov, isRef_int, isRef_bl, isRef_str, isRef_pop, isRef_not, isRef_scal, isRef_non, isRef_op, isRef_gint, isRef_and, isRef_or, isRef_ite, isRef_call, isRef_callk, isRef_app, isRef_popi, isRef_comp, isRef_comp2, isRef_tall, isRef_chn, isRef_ref, ev_callR, eva_nil, eva_ref, eva_e, fill_nil, fill_ref, fill_e, back_nil, back_ref, back_e, fin1, fin2, fin3, Option.isNone_some, Bool.false_and, aug_lst, augn, ix3_0, sx3_0, ix3_1, sx3_1, ix3_2, sx3_2, ix5_0, sx5_0, ix5_1, sx5_1, ix5_2, sx5_2, ix5_3, sx5_3, ix5_4, sx5_4, Option.isNone_none, Bool.and_self, Bool.true_and, Bool.and_true, setAt_eq, oD0, oDs, st0, sts, wipe0, wipes, Option.map_some, Option.bind_some, cont_nx, cont_rt, cond_t, cond_f, cond_bl, not_bl, tst_bl, scal_int, scal_bl, scal_str, scal_non, valO_rt, valO_nx, wipeO_nx, wipeO_rt, wipeC_some, wipeF_some, isL_lst, l0, l1, l2, l3, l4, l5, l6, l7, l8, l9, l10, l11, l12, l13, l14, l15, l16, l17, l18, l19, l20, l21, l22, l23, l24, l25, l26, l27, l28, l29, l30, l31, l32, l33, l34, l35, l36, l37, l38, l39, l40, l41, l42, l43, l44, l45, l46, l47, l48, l49, l50, l51, l52, l53, l54, l55, l56, l57, l58, l59, l60, l61, l62, l63, l64, l65, l66, l67, l68, l69, l99, l100, l101, l131, l1000, l1001, l7919, l10007, l27183, l48271, l62089, l69621, l1000003, l1140671, l27644437, l32416187, l1103515245, l2147483587, l2147483629, l2147483647, l1000000000000000000, o_lst0, o_lst1, o_lst2, o_lst3, o_lst4, o_lst5, o_lst6, o_lst7, o_lst8, o_lst9, o_lst10, o_lst11, o_lst12, o_tup2, o_tup3, o_addn, o_neg1, o_ltn, o_len', o_gtn, o_gen, o_eqn, o_nen, o_eql, o_nel, o_eqll, o_nell, o_nenl, o_nenll, o_eqnl, o_eqnll, o_len, o_len0, o_lenD, o_drop, o_take, o_takez, arr10, arr01, arr0, arr210, arr012, arr120, arr201, o_rev, o_listOf, o_listOfT, o_tupOf, List.length_map, it_list, it_tup, it_rev, it_enum, it_zip, o_allb, o_all, o_any, o_anyb, o_sum, o_srt, o_inn, o_notin, o_innl, o_notinl, o_count, o_toInt, turnB, clauseB, clauseF, if_true, if_false, Bool.false_eq_true, Bool.not_true, Bool.not_false, it_r1 (show n ≤ LIM by simp -implicitDefEqProofs only [LIM]; omega)]
        rw [compD_some (fun v => !decide (v ∈ row)) (fun v => dl (row ++ [v])) (by rfl) (fun v hv => ?_) (by simp only [List.length_nil, List.length_range, LIM]; omega)]
        · simp -implicitDefEqProofs only [ev_var, ev_vin, ev_mov, ev_ref, ev_int, ev_bl, ev_non, ev_str, ev_gint, ev_op, evs_nil, evs_cons, ev_and, ev_or, ev_not, ev_ite, ev_scal, ev_tall, ev_chn, ev_comp, ev_comp2, evc_nil, evc_one, bind_nm, bind_tp2, bind_tl2, bind_tp3, bind_tp4, evSs_nil, evSs_cons, evS_asg, evS_par2, evS_par3, evS_sub, evS_sub2, evS_augs, evS_ex, evS_ret, evS_retN, evS_iff, evS_pass, evS_for, evS_whl, ev_call, ev_callk, ev_app, ev_pop, ev_popi, noRef, isRef_var, isRef_vin, isRef_mov, isRef_int, isRef_bl, isRef_str, isRef_pop, isRef_not, isRef_scal, isRef_non, isRef_op, isRef_gint, isRef_and, isRef_or, isRef_ite, isRef_call, isRef_callk, isRef_app, isRef_popi, isRef_comp, isRef_comp2, isRef_tall, isRef_chn, isRef_ref, ev_callR, eva_nil, eva_ref, eva_e, fill_nil, fill_ref, fill_e, back_nil, back_ref, back_e, fin1, fin2, fin3, Option.isNone_some, Bool.false_and, aug_lst, augn, ix3_0, sx3_0, ix3_1, sx3_1, ix3_2, sx3_2, ix5_0, sx5_0, ix5_1, sx5_1, ix5_2, sx5_2, ix5_3, sx5_3, ix5_4, sx5_4, Option.isNone_none, Bool.and_self, Bool.true_and, Bool.and_true, setAt_eq, oD0, oDs, st0, sts, wipe0, wipes, Option.map_some, Option.bind_some, cont_nx, cont_rt, cond_t, cond_f, cond_bl, not_bl, tst_bl, scal_int, scal_bl, scal_str, scal_non, valO_rt, valO_nx, wipeO_nx, wipeO_rt, wipeC_some, wipeF_some, isL_lst, l0, l1, l2, l3, l4, l5, l6, l7, l8, l9, l10, l11, l12, l13, l14, l15, l16, l17, l18, l19, l20, l21, l22, l23, l24, l25, l26, l27, l28, l29, l30, l31, l32, l33, l34, l35, l36, l37, l38, l39, l40, l41, l42, l43, l44, l45, l46, l47, l48, l49, l50, l51, l52, l53, l54, l55, l56, l57, l58, l59, l60, l61, l62, l63, l64, l65, l66, l67, l68, l69, l99, l100, l101, l131, l1000, l1001, l7919, l10007, l27183, l48271, l62089, l69621, l1000003, l1140671, l27644437, l32416187, l1103515245, l2147483587, l2147483629, l2147483647, l1000000000000000000, o_lst0, o_lst1, o_lst2, o_lst3, o_lst4, o_lst5, o_lst6, o_lst7, o_lst8, o_lst9, o_lst10, o_lst11, o_lst12, o_tup2, o_tup3, o_addn, o_neg1, o_ltn, o_len', o_gtn, o_gen, o_eqn, o_nen, o_eql, o_nel, o_eqll, o_nell, o_nenl, o_nenll, o_eqnl, o_eqnll, o_len, o_len0, o_lenD, o_drop, o_take, o_takez, arr10, arr01, arr0, arr210, arr012, arr120, arr201, o_rev, o_listOf, o_listOfT, o_tupOf, List.length_map, it_list, it_tup, it_rev, it_enum, it_zip, o_allb, o_all, o_any, o_anyb, o_sum, o_srt, o_inn, o_notin, o_innl, o_notinl, o_count, o_toInt, turnB, clauseB, clauseF, if_true, if_false, Bool.false_eq_true, Bool.not_true, Bool.not_false, List.nil_append]
          rw [show ((List.range n).filter fun v => !decide (v ∈ row)).map (fun v => dl (row ++ [v])) = (moreOrd n row).map dl by rw [moreOrd, List.map_map]; rfl]
          simp -implicitDefEqProofs only [ev_var, ev_vin, ev_mov, ev_ref, ev_int, ev_bl, ev_non, ev_str, ev_gint, ev_op, evs_nil, evs_cons, ev_and, ev_or, ev_not, ev_ite, ev_scal, ev_tall, ev_chn, ev_comp, ev_comp2, evc_nil, evc_one, bind_nm, bind_tp2, bind_tl2, bind_tp3, bind_tp4, evSs_nil, evSs_cons, evS_asg, evS_par2, evS_par3, evS_sub, evS_sub2, evS_augs, evS_ex, evS_ret, evS_retN, evS_iff, evS_pass, evS_for, evS_whl, ev_call, ev_callk, ev_app, ev_pop, ev_popi, noRef, isRef_var, isRef_vin, isRef_mov, isRef_int, isRef_bl, isRef_str, isRef_pop, isRef_not, isRef_scal, isRef_non, isRef_op, isRef_gint, isRef_and, isRef_or, isRef_ite, isRef_call, isRef_callk, isRef_app, isRef_popi, isRef_comp, isRef_comp2, isRef_tall, isRef_chn, isRef_ref, ev_callR, eva_nil, eva_ref, eva_e, fill_nil, fill_ref, fill_e, back_nil, back_ref, back_e, fin1, fin2, fin3, Option.isNone_some, Bool.false_and, aug_lst, augn, ix3_0, sx3_0, ix3_1, sx3_1, ix3_2, sx3_2, ix5_0, sx5_0, ix5_1, sx5_1, ix5_2, sx5_2, ix5_3, sx5_3, ix5_4, sx5_4, Option.isNone_none, Bool.and_self, Bool.true_and, Bool.and_true, setAt_eq, oD0, oDs, st0, sts, wipe0, wipes, Option.map_some, Option.bind_some, cont_nx, cont_rt, cond_t, cond_f, cond_bl, not_bl, tst_bl, scal_int, scal_bl, scal_str, scal_non, valO_rt, valO_nx, wipeO_nx, wipeO_rt, wipeC_some, wipeF_some, isL_lst, l0, l1, l2, l3, l4, l5, l6, l7, l8, l9, l10, l11, l12, l13, l14, l15, l16, l17, l18, l19, l20, l21, l22, l23, l24, l25, l26, l27, l28, l29, l30, l31, l32, l33, l34, l35, l36, l37, l38, l39, l40, l41, l42, l43, l44, l45, l46, l47, l48, l49, l50, l51, l52, l53, l54, l55, l56, l57, l58, l59, l60, l61, l62, l63, l64, l65, l66, l67, l68, l69, l99, l100, l101, l131, l1000, l1001, l7919, l10007, l27183, l48271, l62089, l69621, l1000003, l1140671, l27644437, l32416187, l1103515245, l2147483587, l2147483629, l2147483647, l1000000000000000000, o_lst0, o_lst1, o_lst2, o_lst3, o_lst4, o_lst5, o_lst6, o_lst7, o_lst8, o_lst9, o_lst10, o_lst11, o_lst12, o_tup2, o_tup3, o_addn, o_neg1, o_ltn, o_len', o_gtn, o_gen, o_eqn, o_nen, o_eql, o_nel, o_eqll, o_nell, o_nenl, o_nenll, o_eqnl, o_eqnll, o_len, o_len0, o_lenD, o_drop, o_take, o_takez, arr10, arr01, arr0, arr210, arr012, arr120, arr201, o_rev, o_listOf, o_listOfT, o_tupOf, List.length_map, it_list, it_tup, it_rev, it_enum, it_zip, o_allb, o_all, o_any, o_anyb, o_sum, o_srt, o_inn, o_notin, o_innl, o_notinl, o_count, o_toInt, turnB, clauseB, clauseF, if_true, if_false, Bool.false_eq_true, Bool.not_true, Bool.not_false, o_catf (f := dl) (show longer.length + (moreOrd n row).length ≤ LIM by omega)]
        · have hl : row.length + 1 ≤ LIM := by simp only [LIM]; omega
          by_cases c : v ∈ row
          · simp -implicitDefEqProofs only [ev_var, ev_vin, ev_mov, ev_ref, ev_int, ev_bl, ev_non, ev_str, ev_gint, ev_op, evs_nil, evs_cons, ev_and, ev_or, ev_not, ev_ite, ev_scal, ev_tall, ev_chn, ev_comp, ev_comp2, evc_nil, evc_one, bind_nm, bind_tp2, bind_tl2, bind_tp3, bind_tp4, evSs_nil, evSs_cons, evS_asg, evS_par2, evS_par3, evS_sub, evS_sub2, evS_augs, evS_ex, evS_ret, evS_retN, evS_iff, evS_pass, evS_for, evS_whl, ev_call, ev_callk, ev_app, ev_pop, ev_popi, noRef, isRef_var, isRef_vin, isRef_mov, isRef_int, isRef_bl, isRef_str, isRef_pop, isRef_not, isRef_scal, isRef_non, isRef_op, isRef_gint, isRef_and, isRef_or, isRef_ite, isRef_call, isRef_callk, isRef_app, isRef_popi, isRef_comp, isRef_comp2, isRef_tall, isRef_chn, isRef_ref, ev_callR, eva_nil, eva_ref, eva_e, fill_nil, fill_ref, fill_e, back_nil, back_ref, back_e, fin1, fin2, fin3, Option.isNone_some, Bool.false_and, aug_lst, augn, ix3_0, sx3_0, ix3_1, sx3_1, ix3_2, sx3_2, ix5_0, sx5_0, ix5_1, sx5_1, ix5_2, sx5_2, ix5_3, sx5_3, ix5_4, sx5_4, Option.isNone_none, Bool.and_self, Bool.true_and, Bool.and_true, setAt_eq, oD0, oDs, st0, sts, wipe0, wipes, Option.map_some, Option.bind_some, cont_nx, cont_rt, cond_t, cond_f, cond_bl, not_bl, tst_bl, scal_int, scal_bl, scal_str, scal_non, valO_rt, valO_nx, wipeO_nx, wipeO_rt, wipeC_some, wipeF_some, isL_lst, l0, l1, l2, l3, l4, l5, l6, l7, l8, l9, l10, l11, l12, l13, l14, l15, l16, l17, l18, l19, l20, l21, l22, l23, l24, l25, l26, l27, l28, l29, l30, l31, l32, l33, l34, l35, l36, l37, l38, l39, l40, l41, l42, l43, l44, l45, l46, l47, l48, l49, l50, l51, l52, l53, l54, l55, l56, l57, l58, l59, l60, l61, l62, l63, l64, l65, l66, l67, l68, l69, l99, l100, l101, l131, l1000, l1001, l7919, l10007, l27183, l48271, l62089, l69621, l1000003, l1140671, l27644437, l32416187, l1103515245, l2147483587, l2147483629, l2147483647, l1000000000000000000, o_lst0, o_lst1, o_lst2, o_lst3, o_lst4, o_lst5, o_lst6, o_lst7, o_lst8, o_lst9, o_lst10, o_lst11, o_lst12, o_tup2, o_tup3, o_addn, o_neg1, o_ltn, o_len', o_gtn, o_gen, o_eqn, o_nen, o_eql, o_nel, o_eqll, o_nell, o_nenl, o_nenll, o_eqnl, o_eqnll, o_len, o_len0, o_lenD, o_drop, o_take, o_takez, arr10, arr01, arr0, arr210, arr012, arr120, arr201, o_rev, o_listOf, o_listOfT, o_tupOf, List.length_map, it_list, it_tup, it_rev, it_enum, it_zip, o_allb, o_all, o_any, o_anyb, o_sum, o_srt, o_inn, o_notin, o_innl, o_notinl, o_count, o_toInt, turnB, clauseB, clauseF, if_true, if_false, Bool.false_eq_true, Bool.not_true, Bool.not_false, c, decide_true]
          · simp -implicitDefEqProofs only [ev_var, ev_vin, ev_mov, ev_ref, ev_int, ev_bl, ev_non, ev_str, ev_gint, ev_op, evs_nil, evs_cons, ev_and, ev_or, ev_not, ev_ite, ev_scal, ev_tall, ev_chn, ev_comp, ev_comp2, evc_nil, evc_one, bind_nm, bind_tp2, bind_tl2, bind_tp3, bind_tp4, evSs_nil, evSs_cons, evS_asg, evS_par2, evS_par3, evS_sub, evS_sub2, evS_augs, evS_ex, evS_ret, evS_retN, evS_iff, evS_pass, evS_for, evS_whl, ev_call, ev_callk, ev_app, ev_pop, ev_popi, noRef, isRef_var, isRef_vin, isRef_mov, isRef_int, isRef_bl, isRef_str, isRef_pop, isRef_not, isRef_scal, isRef_non, isRef_op, isRef_gint, isRef_and, isRef_or, isRef_ite, isRef_call, isRef_callk, isRef_app, isRef_popi, isRef_comp, isRef_comp2, isRef_tall, isRef_chn, isRef_ref, ev_callR, eva_nil, eva_ref, eva_e, fill_nil, fill_ref, fill_e, back_nil, back_ref, back_e, fin1, fin2, fin3, Option.isNone_some, Bool.false_and, aug_lst, augn, ix3_0, sx3_0, ix3_1, sx3_1, ix3_2, sx3_2, ix5_0, sx5_0, ix5_1, sx5_1, ix5_2, sx5_2, ix5_3, sx5_3, ix5_4, sx5_4, Option.isNone_none, Bool.and_self, Bool.true_and, Bool.and_true, setAt_eq, oD0, oDs, st0, sts, wipe0, wipes, Option.map_some, Option.bind_some, cont_nx, cont_rt, cond_t, cond_f, cond_bl, not_bl, tst_bl, scal_int, scal_bl, scal_str, scal_non, valO_rt, valO_nx, wipeO_nx, wipeO_rt, wipeC_some, wipeF_some, isL_lst, l0, l1, l2, l3, l4, l5, l6, l7, l8, l9, l10, l11, l12, l13, l14, l15, l16, l17, l18, l19, l20, l21, l22, l23, l24, l25, l26, l27, l28, l29, l30, l31, l32, l33, l34, l35, l36, l37, l38, l39, l40, l41, l42, l43, l44, l45, l46, l47, l48, l49, l50, l51, l52, l53, l54, l55, l56, l57, l58, l59, l60, l61, l62, l63, l64, l65, l66, l67, l68, l69, l99, l100, l101, l131, l1000, l1001, l7919, l10007, l27183, l48271, l62089, l69621, l1000003, l1140671, l27644437, l32416187, l1103515245, l2147483587, l2147483629, l2147483647, l1000000000000000000, o_lst0, o_lst1, o_lst2, o_lst3, o_lst4, o_lst5, o_lst6, o_lst7, o_lst8, o_lst9, o_lst10, o_lst11, o_lst12, o_tup2, o_tup3, o_addn, o_neg1, o_ltn, o_len', o_gtn, o_gen, o_eqn, o_nen, o_eql, o_nel, o_eqll, o_nell, o_nenl, o_nenll, o_eqnl, o_eqnll, o_len, o_len0, o_lenD, o_drop, o_take, o_takez, arr10, arr01, arr0, arr210, arr012, arr120, arr201, o_rev, o_listOf, o_listOfT, o_tupOf, List.length_map, it_list, it_tup, it_rev, it_enum, it_zip, o_allb, o_all, o_any, o_anyb, o_sum, o_srt, o_inn, o_notin, o_innl, o_notinl, o_count, o_toInt, turnB, clauseB, clauseF, if_true, if_false, Bool.false_eq_true, Bool.not_true, Bool.not_false, c, decide_false, o_cat1 (f := dn) hl]
    · refine Nat.le_trans (flatMap_len fun x _ => moreOrd_len) ?_
      rw [Nat.pow_succ]
      exact hmul
end PL

namespace PL
open PySem OH
/-! ### the purse -/
structure Pu where
  cells : List Nat
  i : Nat
  cur : Nat
  cnt : Nat
  seed : Nat
def enc (p : Pu) : D := .lst [dl p.cells, dn p.i, dn p.cur, dn p.cnt, dn p.seed]
/-- a purse that was drawn from so often at most -/
def IsPu (c : Nat) (d : D) : Prop := ∃ p, d = enc p ∧ p.cnt ≤ c
theorem IsPu.mono {c c' : Nat} {d : D} (h : IsPu c d) (l : c ≤ c') : IsPu c' d := by
  obtain ⟨p, e, h⟩ := h
  exact ⟨p, e, Nat.le_trans h l⟩
theorem dd_mod {x : Nat} (m : Nat) (h : 0 < m) : x % m < m := Nat.mod_lt _ h
theorem v_draw {k m c : Nat} {d : D} (hp : IsPu c d) (hc : c < 2 ^ 60) (hm : 0 < m) (hm2 : m < 1073741824) : ∃ v d', callD P (k + 1) 22 [d, dn m] = some (dn v, [d', dn m]) ∧ v < m ∧ IsPu (c + 1) d' := by
  obtain ⟨p, rfl, hcnt⟩ := hp
  -- what happens first
  have first : ∃ p1 : Pu, p1.cnt = p.cnt ∧ ∀ (cl : Calls) (ss : List S), (evSs cl ((S.iff (.and (.op .lt [.op .ix [.vin 0, .int 2], .vin 1]) (.op .lt [.op .ix [.vin 0, .int 1], .op .len [.op .ix [.vin 0, .int 0]]])) [
    .sub 0 (.int 2) (.scal (.op .ix [.op .ix [.vin 0, .int 0], .op .ix [.vin 0, .int 1]])),
    .augs 0 (.int 1) .add (.int 1)] []) :: ss) [some (enc p), some (dn m), none, none]) = evSs cl ss [some (enc p1), some (dn m), none, none] := by
    by_cases c1 : p.cur < m
    · by_cases c2 : p.i < p.cells.length
      · refine ⟨{ p with cur := p.cells[p.i], i := p.i + 1 }, rfl, fun cl ss => ?_⟩
        simp -implicitDefEqProofs only [enc, ev_var, ev_vin, ev_mov, ev_ref, ev_int, ev_bl, ev_non, ev_str, ev_gint, ev_op, evs_nil, evs_cons, ev_and, ev_or, ev_not, ev_ite, ev_scal, ev_tall, ev_chn, ev_comp, ev_comp2, evc_nil, evc_one, bind_nm, bind_tp2, bind_tl2, bind_tp3, bind_tp4, evSs_nil, evSs_cons, evS_asg, evS_par2, evS_par3, evS_sub, evS_sub2, evS_augs, evS_ex, evS_ret, evS_retN, evS_iff, evS_pass, evS_for, evS_whl, ev_call, ev_callk, ev_app, ev_pop, ev_popi, noRef, isRef_var, isRef_vin, isRef_mov, isRef_int, isRef_bl, isRef_str, isRef_pop, isRef_not, isRef_scal, isRef_non, isRef_op, isRef_gint, isRef_and, isRef_or, isRef_ite, isRef_call, isRef_callk, isRef_app, isRef_popi, isRef_comp, isRef_comp2, isRef_tall, isRef_chn, isRef_ref, ev_callR, eva_nil, eva_ref, eva_e, fill_nil, fill_ref, fill_e, back_nil, back_ref, back_e, fin1, fin2, fin3, Option.isNone_some, Bool.false_and, aug_lst, augn, ix3_0, sx3_0, ix3_1, sx3_1, ix3_2, sx3_2, ix5_0, sx5_0, ix5_1, sx5_1, ix5_2, sx5_2, ix5_3, sx5_3, ix5_4, sx5_4, Option.isNone_none, Bool.and_self, Bool.true_and, Bool.and_true, setAt_eq, oD0, oDs, st0, sts, wipe0, wipes, Option.map_some, Option.bind_some, cont_nx, cont_rt, cond_t, cond_f, cond_bl, not_bl, tst_bl, scal_int, scal_bl, scal_str, scal_non, valO_rt, valO_nx, wipeO_nx, wipeO_rt, wipeC_some, wipeF_some, isL_lst, l0, l1, l2, l3, l4, l5, l6, l7, l8, l9, l10, l11, l12, l13, l14, l15, l16, l17, l18, l19, l20, l21, l22, l23, l24, l25, l26, l27, l28, l29, l30, l31, l32, l33, l34, l35, l36, l37, l38, l39, l40, l41, l42, l43, l44, l45, l46, l47, l48, l49, l50, l51, l52, l53, l54, l55, l56, l57, l58, l59, l60, l61, l62, l63, l64, l65, l66, l67, l68, l69, l99, l100, l101, l131, l1000, l1001, l7919, l10007, l27183, l48271, l62089, l69621, l1000003, l1140671, l27644437, l32416187, l1103515245, l2147483587, l2147483629, l2147483647, l1000000000000000000, o_lst0, o_lst1, o_lst2, o_lst3, o_lst4, o_lst5, o_lst6, o_lst7, o_lst8, o_lst9, o_lst10, o_lst11, o_lst12, o_tup2, o_tup3, o_addn, o_neg1, o_ltn, o_len', o_gtn, o_gen, o_eqn, o_nen, o_eql, o_nel, o_eqll, o_nell, o_nenl, o_nenll, o_eqnl, o_eqnll, o_len, o_len0, o_lenD, o_drop, o_take, o_takez, arr10, arr01, arr0, arr210, arr012, arr120, arr201, o_rev, o_listOf, o_listOfT, o_tupOf, List.length_map, it_list, it_tup, it_rev, it_enum, it_zip, o_allb, o_all, o_any, o_anyb, o_sum, o_srt, o_inn, o_notin, o_innl, o_notinl, o_count, o_toInt, turnB, clauseB, clauseF, if_true, if_false, Bool.false_eq_true, Bool.not_true, Bool.not_false, c1, c2, decide_true, o_ixg c2]
      · refine ⟨p, rfl, fun cl ss => ?_⟩
        simp -implicitDefEqProofs only [enc, ev_var, ev_vin, ev_mov, ev_ref, ev_int, ev_bl, ev_non, ev_str, ev_gint, ev_op, evs_nil, evs_cons, ev_and, ev_or, ev_not, ev_ite, ev_scal, ev_tall, ev_chn, ev_comp, ev_comp2, evc_nil, evc_one, bind_nm, bind_tp2, bind_tl2, bind_tp3, bind_tp4, evSs_nil, evSs_cons, evS_asg, evS_par2, evS_par3, evS_sub, evS_sub2, evS_augs, evS_ex, evS_ret, evS_retN, evS_iff, evS_pass, evS_for, evS_whl, ev_call, ev_callk, ev_app, ev_pop, ev_popi, noRef, isRef_var, isRef_vin, isRef_mov, isRef_int, isRef_bl, isRef_str, isRef_pop, isRef_not, isRef_scal, isRef_non, isRef_op, isRef_gint, isRef_and, isRef_or, isRef_ite, isRef_call, isRef_callk, isRef_app, isRef_popi, isRef_comp, isRef_comp2, isRef_tall, isRef_chn, isRef_ref, ev_callR, eva_nil, eva_ref, eva_e, fill_nil, fill_ref, fill_e, back_nil, back_ref, back_e, fin1, fin2, fin3, Option.isNone_some, Bool.false_and, aug_lst, augn, ix3_0, sx3_0, ix3_1, sx3_1, ix3_2, sx3_2, ix5_0, sx5_0, ix5_1, sx5_1, ix5_2, sx5_2, ix5_3, sx5_3, ix5_4, sx5_4, Option.isNone_none, Bool.and_self, Bool.true_and, Bool.and_true, setAt_eq, oD0, oDs, st0, sts, wipe0, wipes, Option.map_some, Option.bind_some, cont_nx, cont_rt, cond_t, cond_f, cond_bl, not_bl, tst_bl, scal_int, scal_bl, scal_str, scal_non, valO_rt, valO_nx, wipeO_nx, wipeO_rt, wipeC_some, wipeF_some, isL_lst, l0, l1, l2, l3, l4, l5, l6, l7, l8, l9, l10, l11, l12, l13, l14, l15, l16, l17, l18, l19, l20, l21, l22, l23, l24, l25, l26, l27, l28, l29, l30, l31, l32, l33, l34, l35, l36, l37, l38, l39, l40, l41, l42, l43, l44, l45, l46, l47, l48, l49, l50, l51, l52, l53, l54, l55, l56, l57, l58, l59, l60, l61, l62, l63, l64, l65, l66, l67, l68, l69, l99, l100, l101, l131, l1000, l1001, l7919, l10007, l27183, l48271, l62089, l69621, l1000003, l1140671, l27644437, l32416187, l1103515245, l2147483587, l2147483629, l2147483647, l1000000000000000000, o_lst0, o_lst1, o_lst2, o_lst3, o_lst4, o_lst5, o_lst6, o_lst7, o_lst8, o_lst9, o_lst10, o_lst11, o_lst12, o_tup2, o_tup3, o_addn, o_neg1, o_ltn, o_len', o_gtn, o_gen, o_eqn, o_nen, o_eql, o_nel, o_eqll, o_nell, o_nenl, o_nenll, o_eqnl, o_eqnll, o_len, o_len0, o_lenD, o_drop, o_take, o_takez, arr10, arr01, arr0, arr210, arr012, arr120, arr201, o_rev, o_listOf, o_listOfT, o_tupOf, List.length_map, it_list, it_tup, it_rev, it_enum, it_zip, o_allb, o_all, o_any, o_anyb, o_sum, o_srt, o_inn, o_notin, o_innl, o_notinl, o_count, o_toInt, turnB, clauseB, clauseF, if_true, if_false, Bool.false_eq_true, Bool.not_true, Bool.not_false, c1, c2, decide_true, decide_false]
    · refine ⟨p, rfl, fun cl ss => ?_⟩
      simp -implicitDefEqProofs only [enc, ev_var, ev_vin, ev_mov, ev_ref, ev_int, ev_bl, ev_non, ev_str, ev_gint, ev_op, evs_nil, evs_cons, ev_and, ev_or, ev_not, ev_ite, ev_scal, ev_tall, ev_chn, ev_comp, ev_comp2, evc_nil, evc_one, bind_nm, bind_tp2, bind_tl2, bind_tp3, bind_tp4, evSs_nil, evSs_cons, evS_asg, evS_par2, evS_par3, evS_sub, evS_sub2, evS_augs, evS_ex, evS_ret, evS_retN, evS_iff, evS_pass, evS_for, evS_whl, ev_call, ev_callk, ev_app, ev_pop, ev_popi, noRef, isRef_var, isRef_vin, isRef_mov, isRef_int, isRef_bl, isRef_str, isRef_pop, isRef_not, isRef_scal, isRef_non, isRef_op, isRef_gint, isRef_and, isRef_or, isRef_ite, isRef_call, isRef_callk, isRef_app, isRef_popi, isRef_comp, isRef_comp2, isRef_tall, isRef_chn, isRef_ref, ev_callR, eva_nil, eva_ref, eva_e, fill_nil, fill_ref, fill_e, back_nil, back_ref, back_e, fin1, fin2, fin3, Option.isNone_some, Bool.false_and, aug_lst, augn, ix3_0, sx3_0, ix3_1, sx3_1, ix3_2, sx3_2, ix5_0, sx5_0, ix5_1, sx5_1, ix5_2, sx5_2, ix5_3, sx5_3, ix5_4, sx5_4, Option.isNone_none, Bool.and_self, Bool.true_and, Bool.and_true, setAt_eq, oD0, oDs, st0, sts, wipe0, wipes, Option.map_some, Option.bind_some, cont_nx, cont_rt, cond_t, cond_f, cond_bl, not_bl, tst_bl, scal_int, scal_bl, scal_str, scal_non, valO_rt, valO_nx, wipeO_nx, wipeO_rt, wipeC_some, wipeF_some, isL_lst, l0, l1, l2, l3, l4, l5, l6, l7, l8, l9, l10, l11, l12, l13, l14, l15, l16, l17, l18, l19, l20, l21, l22, l23, l24, l25, l26, l27, l28, l29, l30, l31, l32, l33, l34, l35, l36, l37, l38, l39, l40, l41, l42, l43, l44, l45, l46, l47, l48, l49, l50, l51, l52, l53, l54, l55, l56, l57, l58, l59, l60, l61, l62, l63, l64, l65, l66, l67, l68, l69, l99, l100, l101, l131, l1000, l1001, l7919, l10007, l27183, l48271, l62089, l69621, l1000003, l1140671, l27644437, l32416187, l1103515245, l2147483587, l2147483629, l2147483647, l1000000000000000000, o_lst0, o_lst1, o_lst2, o_lst3, o_lst4, o_lst5, o_lst6, o_lst7, o_lst8, o_lst9, o_lst10, o_lst11, o_lst12, o_tup2, o_tup3, o_addn, o_neg1, o_ltn, o_len', o_gtn, o_gen, o_eqn, o_nen, o_eql, o_nel, o_eqll, o_nell, o_nenl, o_nenll, o_eqnl, o_eqnll, o_len, o_len0, o_lenD, o_drop, o_take, o_takez, arr10, arr01, arr0, arr210, arr012, arr120, arr201, o_rev, o_listOf, o_listOfT, o_tupOf, List.length_map, it_list, it_tup, it_rev, it_enum, it_zip, o_allb, o_all, o_any, o_anyb, o_sum, o_srt, o_inn, o_notin, o_innl, o_notinl, o_count, o_toInt, turnB, clauseB, clauseF, if_true, if_false, Bool.false_eq_true, Bool.not_true, Bool.not_false, c1, decide_false]
  obtain ⟨p1, hp1, e1⟩ := first
  have hcall : callD P (k + 1) 22 [enc p, dn m] = finO 2 (evSs (callD P k) f22.body (startD 4 [enc p, dn m])) := call_fin (F := f22) rfl rfl
  rw [hcall]
  simp only [f22, startD, List.map_cons, List.map_nil, List.length_cons, List.length_nil, List.replicate, List.cons_append, List.nil_append, Nat.sub_self, Nat.sub_zero, Nat.zero_add, Nat.reduceAdd, Nat.reduceSub]
  rw [e1]
  by_cases c3 : m ≤ p1.cur
  · refine ⟨p1.cur % m, enc { p1 with cur := p1.cur / m }, ?_, dd_mod m hm, ⟨_, rfl, by show p1.cnt ≤ _; omega⟩⟩
    simp -implicitDefEqProofs only [enc, ev_var, ev_vin, ev_mov, ev_ref, ev_int, ev_bl, ev_non, ev_str, ev_gint, ev_op, evs_nil, evs_cons, ev_and, ev_or, ev_not, ev_ite, ev_scal, ev_tall, ev_chn, ev_comp, ev_comp2, evc_nil, evc_one, bind_nm, bind_tp2, bind_tl2, bind_tp3, bind_tp4, evSs_nil, evSs_cons, evS_asg, evS_par2, evS_par3, evS_sub, evS_sub2, evS_augs, evS_ex, evS_ret, evS_retN, evS_iff, evS_pass, evS_for, evS_whl, ev_call, ev_callk, ev_app, ev_pop, ev_popi, noRef, isRef_var, isRef_vin, isRef_mov, isRef_int, isRef_bl, isRef_str, isRef_pop, isRef_not, isRef_scal, isRef_non, isRef_op, isRef_gint, isRef_and, isRef_or, isRef_ite, isRef_call, isRef_callk, isRef_app, isRef_popi, isRef_comp, isRef_comp2, isRef_tall, isRef_chn, isRef_ref, ev_callR, eva_nil, eva_ref, eva_e, fill_nil, fill_ref, fill_e, back_nil, back_ref, back_e, fin1, fin2, fin3, Option.isNone_some, Bool.false_and, aug_lst, augn, ix3_0, sx3_0, ix3_1, sx3_1, ix3_2, sx3_2, ix5_0, sx5_0, ix5_1, sx5_1, ix5_2, sx5_2, ix5_3, sx5_3, ix5_4, sx5_4, Option.isNone_none, Bool.and_self, Bool.true_and, Bool.and_true, setAt_eq, oD0, oDs, st0, sts, wipe0, wipes, Option.map_some, Option.bind_some, cont_nx, cont_rt, cond_t, cond_f, cond_bl, not_bl, tst_bl, scal_int, scal_bl, scal_str, scal_non, valO_rt, valO_nx, wipeO_nx, wipeO_rt, wipeC_some, wipeF_some, isL_lst, l0, l1, l2, l3, l4, l5, l6, l7, l8, l9, l10, l11, l12, l13, l14, l15, l16, l17, l18, l19, l20, l21, l22, l23, l24, l25, l26, l27, l28, l29, l30, l31, l32, l33, l34, l35, l36, l37, l38, l39, l40, l41, l42, l43, l44, l45, l46, l47, l48, l49, l50, l51, l52, l53, l54, l55, l56, l57, l58, l59, l60, l61, l62, l63, l64, l65, l66, l67, l68, l69, l99, l100, l101, l131, l1000, l1001, l7919, l10007, l27183, l48271, l62089, l69621, l1000003, l1140671, l27644437, l32416187, l1103515245, l2147483587, l2147483629, l2147483647, l1000000000000000000, o_lst0, o_lst1, o_lst2, o_lst3, o_lst4, o_lst5, o_lst6, o_lst7, o_lst8, o_lst9, o_lst10, o_lst11, o_lst12, o_tup2, o_tup3, o_addn, o_neg1, o_ltn, o_len', o_gtn, o_gen, o_eqn, o_nen, o_eql, o_nel, o_eqll, o_nell, o_nenl, o_nenll, o_eqnl, o_eqnll, o_len, o_len0, o_lenD, o_drop, o_take, o_takez, arr10, arr01, arr0, arr210, arr012, arr120, arr201, o_rev, o_listOf, o_listOfT, o_tupOf, List.length_map, it_list, it_tup, it_rev, it_enum, it_zip, o_allb, o_all, o_any, o_anyb, o_sum, o_srt, o_inn, o_notin, o_innl, o_notinl, o_count, o_toInt, turnB, clauseB, clauseF, if_true, if_false, Bool.false_eq_true, Bool.not_true, Bool.not_false, c3, decide_true, o_modn hm, o_fdivn ⟨hm, hm2⟩]
  · have hs : p1.cnt + 1 < 2 ^ 64 := by omega
    have h1 : (((p1.cnt + 1) * (p1.cnt + 1) + p1.seed) * 48271 : Nat) % 2147483629 < 2147483629 := Nat.mod_lt _ (by omega)
    generalize hst : (((p1.cnt + 1) * (p1.cnt + 1) + p1.seed) * 48271 : Nat) % 2147483629 = st at h1
    refine ⟨(st * st % 2147483587) % m, enc { p1 with cnt := p1.cnt + 1 }, ?_, dd_mod m hm, ⟨_, rfl, by show p1.cnt + 1 ≤ _; omega⟩⟩
    have q1 : ((48271 : Int)) = ((48271 : Nat) : Int) := rfl
    have q2 : ((2147483629 : Int)) = ((2147483629 : Nat) : Int) := rfl
    have q3 : ((2147483587 : Int)) = ((2147483587 : Nat) : Int) := rfl
    simp -implicitDefEqProofs only [enc, ev_var, ev_vin, ev_mov, ev_ref, ev_int, ev_bl, ev_non, ev_str, ev_gint, ev_op, evs_nil, evs_cons, ev_and, ev_or, ev_not, ev_ite, ev_scal, ev_tall, ev_chn, ev_comp, ev_comp2, evc_nil, evc_one, bind_nm, bind_tp2, bind_tl2, bind_tp3, bind_tp4, evSs_nil, evSs_cons, evS_asg, evS_par2, evS_par3, evS_sub, evS_sub2, evS_augs, evS_ex, evS_ret, evS_retN, evS_iff, evS_pass, evS_for, evS_whl, ev_call, ev_callk, ev_app, ev_pop, ev_popi, noRef, isRef_var, isRef_vin, isRef_mov, isRef_int, isRef_bl, isRef_str, isRef_pop, isRef_not, isRef_scal, isRef_non, isRef_op, isRef_gint, isRef_and, isRef_or, isRef_ite, isRef_call, isRef_callk, isRef_app, isRef_popi, isRef_comp, isRef_comp2, isRef_tall, isRef_chn, isRef_ref, ev_callR, eva_nil, eva_ref, eva_e, fill_nil, fill_ref, fill_e, back_nil, back_ref, back_e, fin1, fin2, fin3, Option.isNone_some, Bool.false_and, aug_lst, augn, ix3_0, sx3_0, ix3_1, sx3_1, ix3_2, sx3_2, ix5_0, sx5_0, ix5_1, sx5_1, ix5_2, sx5_2, ix5_3, sx5_3, ix5_4, sx5_4, Option.isNone_none, Bool.and_self, Bool.true_and, Bool.and_true, setAt_eq, oD0, oDs, st0, sts, wipe0, wipes, Option.map_some, Option.bind_some, cont_nx, cont_rt, cond_t, cond_f, cond_bl, not_bl, tst_bl, scal_int, scal_bl, scal_str, scal_non, valO_rt, valO_nx, wipeO_nx, wipeO_rt, wipeC_some, wipeF_some, isL_lst, l0, l1, l2, l3, l4, l5, l6, l7, l8, l9, l10, l11, l12, l13, l14, l15, l16, l17, l18, l19, l20, l21, l22, l23, l24, l25, l26, l27, l28, l29, l30, l31, l32, l33, l34, l35, l36, l37, l38, l39, l40, l41, l42, l43, l44, l45, l46, l47, l48, l49, l50, l51, l52, l53, l54, l55, l56, l57, l58, l59, l60, l61, l62, l63, l64, l65, l66, l67, l68, l69, l99, l100, l101, l131, l1000, l1001, l7919, l10007, l27183, l48271, l62089, l69621, l1000003, l1140671, l27644437, l32416187, l1103515245, l2147483587, l2147483629, l2147483647, l1000000000000000000, o_lst0, o_lst1, o_lst2, o_lst3, o_lst4, o_lst5, o_lst6, o_lst7, o_lst8, o_lst9, o_lst10, o_lst11, o_lst12, o_tup2, o_tup3, o_addn, o_neg1, o_ltn, o_len', o_gtn, o_gen, o_eqn, o_nen, o_eql, o_nel, o_eqll, o_nell, o_nenl, o_nenll, o_eqnl, o_eqnll, o_len, o_len0, o_lenD, o_drop, o_take, o_takez, arr10, arr01, arr0, arr210, arr012, arr120, arr201, o_rev, o_listOf, o_listOfT, o_tupOf, List.length_map, it_list, it_tup, it_rev, it_enum, it_zip, o_allb, o_all, o_any, o_anyb, o_sum, o_srt, o_inn, o_notin, o_innl, o_notinl, o_count, o_toInt, turnB, clauseB, clauseF, if_true, if_false, Bool.false_eq_true, Bool.not_true, Bool.not_false, c3, decide_false, q1, q2, q3, o_muln (a := p1.cnt + 1) (b := p1.cnt + 1) (.inl hs), o_muln (b := 48271) (.inr (by omega)), o_modn (b := 2147483629) (by omega), hst, o_muln (a := st) (b := st) (.inl (by omega)), o_modn (b := 2147483587) (by omega), o_modn hm]
/-! ### orders -/
/-- an order of n places -/
structure IsOrd (n : Nat) (o : List Nat) : Prop where
  len : o.length = n
  nd : o.Nodup
  lt : ∀ x ∈ o, x < n
theorem v_shuffled {k c : Nat} {d : D} {xs : List Nat} (hp : IsPu c d) (hc : c + xs.length < 2 ^ 60) (hn : xs.length ≤ 1000) (nd : xs.Nodup) : ∃ o d', callD P (k + 2) 18 [d, dl xs] = some (dl o, [d', dl xs]) ∧ o.length = xs.length ∧ o.Nodup ∧ (∀ x ∈ o, x ∈ xs) ∧ IsPu (c + xs.length) d' := by
  have hcall : callD P (k + 2) 18 [d, dl xs] = finO 2 (evSs (callD P (k + 1)) f18.body (startD 5 [d, dl xs])) := call_fin (F := f18) rfl rfl
  rw [hcall]
  simp -implicitDefEqProofs only [f18, startD, List.map_cons, List.map_nil, List.length_cons, List.length_nil, List.replicate, List.cons_append, List.nil_append, Nat.sub_self, Nat.sub_zero, Nat.zero_add, Nat.reduceAdd, Nat.reduceSub, ev_var, ev_vin, ev_mov, ev_ref, ev_int, ev_bl, ev_non, ev_str, ev_gint, ev_op, evs_nil, evs_cons, ev_and, ev_or, ev_not, ev_ite, ev_scal, ev_tall, ev_chn, ev_comp, ev_comp2, evc_nil, evc_one, bind_nm, bind_tp2, bind_tl2, bind_tp3, bind_tp4, evSs_nil, evSs_cons, evS_asg, evS_par2, evS_par3, evS_sub, evS_sub2, evS_augs, evS_ex, evS_ret, evS_retN, evS_iff, evS_pass, evS_for, evS_whl, ev_call, ev_callk, ev_app, ev_pop, ev_popi, noRef, isRef_var, isRef_vin, isRef_mov, isRef_int, isRef_bl, isRef_str, isRef_pop, isRef_not, isRef_scal, isRef_non, isRef_op, isRef_gint, isRef_and, isRef_or, isRef_ite, isRef_call, isRef_callk, isRef_app, isRef_popi, isRef_comp, isRef_comp2, isRef_tall, isRef_chn, isRef_ref, ev_callR, eva_nil, eva_ref, eva_e, fill_nil, fill_ref, fill_e, back_nil, back_ref, back_e, fin1, fin2, fin3, Option.isNone_some, Bool.false_and, aug_lst, augn, ix3_0, sx3_0, ix3_1, sx3_1, ix3_2, sx3_2, ix5_0, sx5_0, ix5_1, sx5_1, ix5_2, sx5_2, ix5_3, sx5_3, ix5_4, sx5_4, Option.isNone_none, Bool.and_self, Bool.true_and, Bool.and_true, setAt_eq, oD0, oDs, st0, sts, wipe0, wipes, Option.map_some, Option.bind_some, cont_nx, cont_rt, cond_t, cond_f, cond_bl, not_bl, tst_bl, scal_int, scal_bl, scal_str, scal_non, valO_rt, valO_nx, wipeO_nx, wipeO_rt, wipeC_some, wipeF_some, isL_lst, l0, l1, l2, l3, l4, l5, l6, l7, l8, l9, l10, l11, l12, l13, l14, l15, l16, l17, l18, l19, l20, l21, l22, l23, l24, l25, l26, l27, l28, l29, l30, l31, l32, l33, l34, l35, l36, l37, l38, l39, l40, l41, l42, l43, l44, l45, l46, l47, l48, l49, l50, l51, l52, l53, l54, l55, l56, l57, l58, l59, l60, l61, l62, l63, l64, l65, l66, l67, l68, l69, l99, l100, l101, l131, l1000, l1001, l7919, l10007, l27183, l48271, l62089, l69621, l1000003, l1140671, l27644437, l32416187, l1103515245, l2147483587, l2147483629, l2147483647, l1000000000000000000, o_lst0, o_lst1, o_lst2, o_lst3, o_lst4, o_lst5, o_lst6, o_lst7, o_lst8, o_lst9, o_lst10, o_lst11, o_lst12, o_tup2, o_tup3, o_addn, o_neg1, o_ltn, o_len', o_gtn, o_gen, o_eqn, o_nen, o_eql, o_nel, o_eqll, o_nell, o_nenl, o_nenll, o_eqnl, o_eqnll, o_len, o_len0, o_lenD, o_drop, o_take, o_takez, arr10, arr01, arr0, arr210, arr012, arr120, arr201, o_rev, o_listOf, o_listOfT, o_tupOf, List.length_map, it_list, it_tup, it_rev, it_enum, it_zip, o_allb, o_all, o_any, o_anyb, o_sum, o_srt, o_inn, o_notin, o_innl, o_notinl, o_count, o_toInt, turnB, clauseB, clauseF, if_true, if_false, Bool.false_eq_true, Bool.not_true, Bool.not_false]
  have H := fun step => forD_all (b := turnB (callD P (k + 1)) (.nm 2) [.ex (.app 4 (.scal (.popi 3 (.call 22 [.ref 0, .op .len [.vin 3]]))))]) (kill := [2]) (ds := xs.map dn)
    (ρ := [some d, some (dl xs), none, some (.lst (xs.map dn)), some (.lst [])])
    (fun m ρ => ∃ d' left found, ρ = [some d', some (dl xs), none, some (dl left), some (dl found)] ∧ IsPu (c + m) d' ∧ found.length = m ∧ left.length + m = xs.length ∧ (found ++ left).Nodup ∧ ∀ x ∈ found ++ left, x ∈ xs)
    ⟨d, xs, [], rfl, hp, rfl, rfl, by simpa using nd, by simp⟩ step (fun m ρ I => by obtain ⟨d', left, found, rfl, _⟩ := I; rfl)
  obtain ⟨ρ', e, I⟩ := H (fun m x ρ hx I => by
      obtain ⟨d', left, found, rfl, hpu, hf, hl, hnd, hm⟩ := I
      have hmx : m < (xs.map dn).length := (List.getElem?_eq_some_iff.mp hx).1
      rw [List.length_map] at hmx
      obtain ⟨v, d2, e2, hv, hpu2⟩ := v_draw (k := k) (m := left.length) hpu (by omega) (by omega) (by omega)
      have hv2 : left[v]? = some left[v] := List.getElem?_eq_getElem hv
      refine ⟨[some d2, some (dl xs), none, some (dl (left.eraseIdx v)), some (dl (found ++ [left[v]]))], ?_, d2, left.eraseIdx v, found ++ [left[v]], rfl, by rw [← Nat.add_assoc]; exact hpu2, by simp [hf], ?_, ?_, ?_⟩
      · simp -implicitDefEqProofs only [ev_var, ev_vin, ev_mov, ev_ref, ev_int, ev_bl, ev_non, ev_str, ev_gint, ev_op, evs_nil, evs_cons, ev_and, ev_or, ev_not, ev_ite, ev_scal, ev_tall, ev_chn, ev_comp, ev_comp2, evc_nil, evc_one, bind_nm, bind_tp2, bind_tl2, bind_tp3, bind_tp4, evSs_nil, evSs_cons, evS_asg, evS_par2, evS_par3, evS_sub, evS_sub2, evS_augs, evS_ex, evS_ret, evS_retN, evS_iff, evS_pass, evS_for, evS_whl, ev_call, ev_callk, ev_app, ev_pop, ev_popi, noRef, isRef_var, isRef_vin, isRef_mov, isRef_int, isRef_bl, isRef_str, isRef_pop, isRef_not, isRef_scal, isRef_non, isRef_op, isRef_gint, isRef_and, isRef_or, isRef_ite, isRef_call, isRef_callk, isRef_app, isRef_popi, isRef_comp, isRef_comp2, isRef_tall, isRef_chn, isRef_ref, ev_callR, eva_nil, eva_ref, eva_e, fill_nil, fill_ref, fill_e, back_nil, back_ref, back_e, fin1, fin2, fin3, Option.isNone_some, Bool.false_and, aug_lst, augn, ix3_0, sx3_0, ix3_1, sx3_1, ix3_2, sx3_2, ix5_0, sx5_0, ix5_1, sx5_1, ix5_2, sx5_2, ix5_3, sx5_3, ix5_4, sx5_4, Option.isNone_none, Bool.and_self, Bool.true_and, Bool.and_true, setAt_eq, oD0, oDs, st0, sts, wipe0, wipes, Option.map_some, Option.bind_some, cont_nx, cont_rt, cond_t, cond_f, cond_bl, not_bl, tst_bl, scal_int, scal_bl, scal_str, scal_non, valO_rt, valO_nx, wipeO_nx, wipeO_rt, wipeC_some, wipeF_some, isL_lst, l0, l1, l2, l3, l4, l5, l6, l7, l8, l9, l10, l11, l12, l13, l14, l15, l16, l17, l18, l19, l20, l21, l22, l23, l24, l25, l26, l27, l28, l29, l30, l31, l32, l33, l34, l35, l36, l37, l38, l39, l40, l41, l42, l43, l44, l45, l46, l47, l48, l49, l50, l51, l52, l53, l54, l55, l56, l57, l58, l59, l60, l61, l62, l63, l64, l65, l66, l67, l68, l69, l99, l100, l101, l131, l1000, l1001, l7919, l10007, l27183, l48271, l62089, l69621, l1000003, l1140671, l27644437, l32416187, l1103515245, l2147483587, l2147483629, l2147483647, l1000000000000000000, o_lst0, o_lst1, o_lst2, o_lst3, o_lst4, o_lst5, o_lst6, o_lst7, o_lst8, o_lst9, o_lst10, o_lst11, o_lst12, o_tup2, o_tup3, o_addn, o_neg1, o_ltn, o_len', o_gtn, o_gen, o_eqn, o_nen, o_eql, o_nel, o_eqll, o_nell, o_nenl, o_nenll, o_eqnl, o_eqnll, o_len, o_len0, o_lenD, o_drop, o_take, o_takez, arr10, arr01, arr0, arr210, arr012, arr120, arr201, o_rev, o_listOf, o_listOfT, o_tupOf, List.length_map, it_list, it_tup, it_rev, it_enum, it_zip, o_allb, o_all, o_any, o_anyb, o_sum, o_srt, o_inn, o_notin, o_innl, o_notinl, o_count, o_toInt, turnB, clauseB, clauseF, if_true, if_false, Bool.false_eq_true, Bool.not_true, Bool.not_false, e2, popi_map (f := dn) hv2 (by omega), app_map (f := dn) (xs := found) (show found.length < LIM by simp -implicitDefEqProofs only [LIM]; omega)]
      · rw [List.length_eraseIdx_of_lt hv]; omega
      · have p : (found ++ left).Perm ((found ++ [left[v]]) ++ left.eraseIdx v) := by
          rw [List.append_assoc]
          refine List.Perm.append_left _ ?_
          exact perm_erase hv2
        exact p.nodup_iff.mp hnd
      · intro y hy
        refine hm y ?_
        rcases List.mem_append.mp hy with hy | hy
        · rcases List.mem_append.mp hy with hy | hy
          · exact List.mem_append_left _ hy
          · rw [List.mem_singleton.mp hy]; exact List.mem_append_right _ (List.getElem_mem hv)
        · exact List.mem_append_right _ (List.mem_of_mem_eraseIdx hy))
  obtain ⟨d', left, found, rfl, hpu, hf, hl, hnd, hm⟩ := I
  rw [List.length_map] at hpu hf hl
  have hl0 : left = [] := List.length_eq_zero_iff.mp (by omega)
  subst hl0
  simp only [List.append_nil] at hnd hm
  refine ⟨found, d', ?_, hf, hnd, hm, hpu⟩
  rw [e]
  simp -implicitDefEqProofs only [ev_var, ev_vin, ev_mov, ev_ref, ev_int, ev_bl, ev_non, ev_str, ev_gint, ev_op, evs_nil, evs_cons, ev_and, ev_or, ev_not, ev_ite, ev_scal, ev_tall, ev_chn, ev_comp, ev_comp2, evc_nil, evc_one, bind_nm, bind_tp2, bind_tl2, bind_tp3, bind_tp4, evSs_nil, evSs_cons, evS_asg, evS_par2, evS_par3, evS_sub, evS_sub2, evS_augs, evS_ex, evS_ret, evS_retN, evS_iff, evS_pass, evS_for, evS_whl, ev_call, ev_callk, ev_app, ev_pop, ev_popi, noRef, isRef_var, isRef_vin, isRef_mov, isRef_int, isRef_bl, isRef_str, isRef_pop, isRef_not, isRef_scal, isRef_non, isRef_op, isRef_gint, isRef_and, isRef_or, isRef_ite, isRef_call, isRef_callk, isRef_app, isRef_popi, isRef_comp, isRef_comp2, isRef_tall, isRef_chn, isRef_ref, ev_callR, eva_nil, eva_ref, eva_e, fill_nil, fill_ref, fill_e, back_nil, back_ref, back_e, fin1, fin2, fin3, Option.isNone_some, Bool.false_and, aug_lst, augn, ix3_0, sx3_0, ix3_1, sx3_1, ix3_2, sx3_2, ix5_0, sx5_0, ix5_1, sx5_1, ix5_2, sx5_2, ix5_3, sx5_3, ix5_4, sx5_4, Option.isNone_none, Bool.and_self, Bool.true_and, Bool.and_true, setAt_eq, oD0, oDs, st0, sts, wipe0, wipes, Option.map_some, Option.bind_some, cont_nx, cont_rt, cond_t, cond_f, cond_bl, not_bl, tst_bl, scal_int, scal_bl, scal_str, scal_non, valO_rt, valO_nx, wipeO_nx, wipeO_rt, wipeC_some, wipeF_some, isL_lst, l0, l1, l2, l3, l4, l5, l6, l7, l8, l9, l10, l11, l12, l13, l14, l15, l16, l17, l18, l19, l20, l21, l22, l23, l24, l25, l26, l27, l28, l29, l30, l31, l32, l33, l34, l35, l36, l37, l38, l39, l40, l41, l42, l43, l44, l45, l46, l47, l48, l49, l50, l51, l52, l53, l54, l55, l56, l57, l58, l59, l60, l61, l62, l63, l64, l65, l66, l67, l68, l69, l99, l100, l101, l131, l1000, l1001, l7919, l10007, l27183, l48271, l62089, l69621, l1000003, l1140671, l27644437, l32416187, l1103515245, l2147483587, l2147483629, l2147483647, l1000000000000000000, o_lst0, o_lst1, o_lst2, o_lst3, o_lst4, o_lst5, o_lst6, o_lst7, o_lst8, o_lst9, o_lst10, o_lst11, o_lst12, o_tup2, o_tup3, o_addn, o_neg1, o_ltn, o_len', o_gtn, o_gen, o_eqn, o_nen, o_eql, o_nel, o_eqll, o_nell, o_nenl, o_nenll, o_eqnl, o_eqnll, o_len, o_len0, o_lenD, o_drop, o_take, o_takez, arr10, arr01, arr0, arr210, arr012, arr120, arr201, o_rev, o_listOf, o_listOfT, o_tupOf, List.length_map, it_list, it_tup, it_rev, it_enum, it_zip, o_allb, o_all, o_any, o_anyb, o_sum, o_srt, o_inn, o_notin, o_innl, o_notinl, o_count, o_toInt, turnB, clauseB, clauseF, if_true, if_false, Bool.false_eq_true, Bool.not_true, Bool.not_false]
theorem v_order {k n c : Nat} {d : D} (hp : IsPu c d) (hc : c + n < 2 ^ 60) (hn : n ≤ 1000) : ∃ o d', callD P (k + 3) 14 [d, dn n] = some (dl o, [d', dn n]) ∧ IsOrd n o ∧ IsPu (c + n) d' := by
  obtain ⟨o, d', e, h1, h2, h3, h4⟩ := v_shuffled (k := k) (xs := List.range n) hp (by rw [List.length_range]; exact hc) (by rw [List.length_range]; exact hn) List.nodup_range
  rw [List.length_range] at h1 h4
  refine ⟨o, d', ?_, ⟨h1, h2, fun x hx => List.mem_range.mp (h3 x hx)⟩, h4⟩
  have hcall : callD P (k + 3) 14 [d, dn n] = finO 2 (evSs (callD P (k + 2)) f14.body (startD 2 [d, dn n])) := call_fin (F := f14) rfl rfl
  rw [hcall]
  simp -implicitDefEqProofs only [f14, startD, List.map_cons, List.map_nil, List.length_cons, List.length_nil, List.replicate, List.cons_append, List.nil_append, Nat.sub_self, Nat.sub_zero, Nat.zero_add, Nat.reduceAdd, Nat.reduceSub, ev_var, ev_vin, ev_mov, ev_ref, ev_int, ev_bl, ev_non, ev_str, ev_gint, ev_op, evs_nil, evs_cons, ev_and, ev_or, ev_not, ev_ite, ev_scal, ev_tall, ev_chn, ev_comp, ev_comp2, evc_nil, evc_one, bind_nm, bind_tp2, bind_tl2, bind_tp3, bind_tp4, evSs_nil, evSs_cons, evS_asg, evS_par2, evS_par3, evS_sub, evS_sub2, evS_augs, evS_ex, evS_ret, evS_retN, evS_iff, evS_pass, evS_for, evS_whl, ev_call, ev_callk, ev_app, ev_pop, ev_popi, noRef, isRef_var, isRef_vin, isRef_mov, isRef_int, isRef_bl, isRef_str, isRef_pop, isRef_not, isRef_scal, isRef_non, isRef_op, isRef_gint, isRef_and, isRef_or, isRef_ite, isRef_call, isRef_callk, isRef_app, isRef_popi, isRef_comp, isRef_comp2, isRef_tall, isRef_chn, isRef_ref, ev_callR, eva_nil, eva_ref, eva_e, fill_nil, fill_ref, fill_e, back_nil, back_ref, back_e, fin1, fin2, fin3, Option.isNone_some, Bool.false_and, aug_lst, augn, ix3_0, sx3_0, ix3_1, sx3_1, ix3_2, sx3_2, ix5_0, sx5_0, ix5_1, sx5_1, ix5_2, sx5_2, ix5_3, sx5_3, ix5_4, sx5_4, Option.isNone_none, Bool.and_self, Bool.true_and, Bool.and_true, setAt_eq, oD0, oDs, st0, sts, wipe0, wipes, Option.map_some, Option.bind_some, cont_nx, cont_rt, cond_t, cond_f, cond_bl, not_bl, tst_bl, scal_int, scal_bl, scal_str, scal_non, valO_rt, valO_nx, wipeO_nx, wipeO_rt, wipeC_some, wipeF_some, isL_lst, l0, l1, l2, l3, l4, l5, l6, l7, l8, l9, l10, l11, l12, l13, l14, l15, l16, l17, l18, l19, l20, l21, l22, l23, l24, l25, l26, l27, l28, l29, l30, l31, l32, l33, l34, l35, l36, l37, l38, l39, l40, l41, l42, l43, l44, l45, l46, l47, l48, l49, l50, l51, l52, l53, l54, l55, l56, l57, l58, l59, l60, l61, l62, l63, l64, l65, l66, l67, l68, l69, l99, l100, l101, l131, l1000, l1001, l7919, l10007, l27183, l48271, l62089, l69621, l1000003, l1140671, l27644437, l32416187, l1103515245, l2147483587, l2147483629, l2147483647, l1000000000000000000, o_lst0, o_lst1, o_lst2, o_lst3, o_lst4, o_lst5, o_lst6, o_lst7, o_lst8, o_lst9, o_lst10, o_lst11, o_lst12, o_tup2, o_tup3, o_addn, o_neg1, o_ltn, o_len', o_gtn, o_gen, o_eqn, o_nen, o_eql, o_nel, o_eqll, o_nell, o_nenl, o_nenll, o_eqnl, o_eqnll, o_len, o_len0, o_lenD, o_drop, o_take, o_takez, arr10, arr01, arr0, arr210, arr012, arr120, arr201, o_rev, o_listOf, o_listOfT, o_tupOf, List.length_map, it_list, it_tup, it_rev, it_enum, it_zip, o_allb, o_all, o_any, o_anyb, o_sum, o_srt, o_inn, o_notin, o_innl, o_notinl, o_count, o_toInt, turnB, clauseB, clauseF, if_true, if_false, Bool.false_eq_true, Bool.not_true, Bool.not_false, o_lr1 (show n ≤ LIM by simp -implicitDefEqProofs only [LIM]; omega), e]
end PL

namespace PL
open PySem OH
/-! ### an order sorted -/
theorem insN_sorted {x : Nat} : ∀ {ys : List Nat}, ys.Pairwise (· ≤ ·) → (insN x ys).Pairwise (· ≤ ·)
  | [], _ => by simp [insN]
  | y :: ys, h => by
    unfold insN
    obtain ⟨h1, h2⟩ := List.pairwise_cons.mp h
    split
    · rename_i c
      refine List.pairwise_cons.mpr ⟨fun z hz => ?_, h⟩
      rcases List.mem_cons.mp hz with e | hz
      · rw [e]; exact c
      · exact Nat.le_trans c (h1 z hz)
    · rename_i c
      refine List.pairwise_cons.mpr ⟨fun z hz => ?_, insN_sorted h2⟩
      have : z = x ∨ z ∈ ys := by
        have p : ∀ (l : List Nat), z ∈ insN x l → z = x ∨ z ∈ l := by
          intro l
          induction l with
          | nil => intro h; left; simpa [insN] using h
          | cons w ws ih =>
            intro h
            unfold insN at h
            split at h
            · rcases List.mem_cons.mp h with e | h
              · left; exact e
              · right; exact h
            · rcases List.mem_cons.mp h with e | h
              · right; rw [e]; exact List.mem_cons_self
              · rcases ih h with e | h
                · left; exact e
                · right; exact List.mem_cons_of_mem _ h
        exact p ys hz
      rcases this with e | hz
      · rw [e]; omega
      · exact h1 z hz
theorem sortN_sorted : ∀ (xs : List Nat), (sortN xs).Pairwise (· ≤ ·)
  | [] => List.Pairwise.nil
  | x :: xs => insN_sorted (sortN_sorted xs)
theorem insN_perm (x : Nat) : ∀ ys : List Nat, (insN x ys).Perm (x :: ys)
  | [] => List.Perm.refl _
  | y :: ys => by
    unfold insN
    split
    · exact List.Perm.refl _
    · exact (List.Perm.cons y (insN_perm x ys)).trans (List.Perm.swap ..)
theorem sortN_perm : ∀ xs : List Nat, (sortN xs).Perm xs
  | [] => List.Perm.refl _
  | x :: xs => (insN_perm x _).trans (List.Perm.cons x (sortN_perm xs))
theorem rising_top : ∀ {l : List Nat} {b : Nat}, l.Pairwise (· < ·) → (∀ x ∈ l, b ≤ x) → l ≠ [] → ∃ x ∈ l, b + l.length ≤ x + 1
  | [], b, _, _, h => absurd rfl h
  | [x], b, _, h, _ => ⟨x, List.mem_cons_self, by have := h x List.mem_cons_self; simp; omega⟩
  | x :: y :: l, b, hp, h, _ => by
    obtain ⟨h1, h2⟩ := List.pairwise_cons.mp hp
    obtain ⟨z, hz, hz2⟩ := rising_top (l := y :: l) (b := b + 1) h2 (fun z hz => by
      have := h1 z hz
      have := h x List.mem_cons_self
      omega) (by simp)
    exact ⟨z, List.mem_cons_of_mem _ hz, by simp only [List.length_cons] at hz2 ⊢; omega⟩
theorem rising_range : ∀ {l : List Nat} {a : Nat}, l.Pairwise (· < ·) → (∀ x ∈ l, a ≤ x ∧ x < a + l.length) → l = List.range' a l.length
  | [], a, _, _ => rfl
  | x :: l, a, hp, h => by
    obtain ⟨h1, h2⟩ := List.pairwise_cons.mp hp
    have hx := h x List.mem_cons_self
    have ex : x = a := by
      obtain ⟨z, hz, hz2⟩ := rising_top (l := x :: l) (b := x) hp (fun z hz => by
        rcases List.mem_cons.mp hz with e | hz
        · omega
        · exact Nat.le_of_lt (h1 z hz)) (by simp)
      have := (h z hz).2
      simp only [List.length_cons] at this hz2
      omega
    subst ex
    have := rising_range (l := l) (a := x + 1) h2 fun z hz => by
      have q := h1 z hz
      have q2 := (h z (List.mem_cons_of_mem _ hz)).2
      simp only [List.length_cons] at q2
      omega
    rw [List.length_cons, List.range'_succ, ← this]
theorem IsOrd.sort {n : Nat} {o : List Nat} (h : IsOrd n o) : sortN o = List.range n := by
  have p := sortN_perm o
  have nd := p.nodup_iff.mpr h.nd
  have hl : (sortN o).length = n := by rw [p.length_eq, h.len]
  have lt : (sortN o).Pairwise (· < ·) := by
    have a := sortN_sorted o
    have b : (sortN o).Pairwise (· ≠ ·) := nd
    exact (a.and b).imp fun h => by omega
  have e := rising_range (a := 0) lt fun x hx => by
    have := h.lt x (p.mem_iff.mp hx)
    omega
  rw [e, hl, List.range_eq_range']
theorem IsOrd.mem {n : Nat} {o : List Nat} (h : IsOrd n o) {x : Nat} : x ∈ o ↔ x < n := by
  rw [← (sortN_perm o).mem_iff, h.sort, List.mem_range]
/-! ### what is looked at first -/
theorem v_is_order {k n : Nat} {o : List Nat} (h : IsOrd n o) (h1 : 1 ≤ n) (h8 : n ≤ 8) : valC (callD P (k + 2)) 1 [dl o] = some (.bl true) := by
  rw [vc (F := f1) rfl rfl]
  have e := compD_all (b := clauseB (callD P (k + 1)) (.nm 1) [] (.call 0 [.scal (.var 1)])) (own := [1]) (ρ1 := [some (dl o), none]) (xs := o) (toD := dn) (acc := []) (ρ := [some (dl o), none]) (fun _ => D.bl true) rfl (fun x hx => by
    simp -implicitDefEqProofs only [ev_var, ev_vin, ev_mov, ev_ref, ev_int, ev_bl, ev_non, ev_str, ev_gint, ev_op, evs_nil, evs_cons, ev_and, ev_or, ev_not, ev_ite, ev_scal, ev_tall, ev_chn, ev_comp, ev_comp2, evc_nil, evc_one, bind_nm, bind_tp2, bind_tl2, bind_tp3, bind_tp4, evSs_nil, evSs_cons, evS_asg, evS_par2, evS_par3, evS_sub, evS_sub2, evS_augs, evS_ex, evS_ret, evS_retN, evS_iff, evS_pass, evS_for, evS_whl, ev_call, ev_callk, ev_app, ev_pop, ev_popi, noRef, isRef_var, isRef_vin, isRef_mov, isRef_int, isRef_bl, isRef_str, isRef_pop, isRef_not, isRef_scal, isRef_non, isRef_op, isRef_gint, isRef_and, isRef_or, isRef_ite, isRef_call, isRef_callk, isRef_app, isRef_popi, isRef_comp, isRef_comp2, isRef_tall, isRef_chn, isRef_ref, ev_callR, eva_nil, eva_ref, eva_e, fill_nil, fill_ref, fill_e, back_nil, back_ref, back_e, fin1, fin2, fin3, Option.isNone_some, Bool.false_and, aug_lst, augn, ix3_0, sx3_0, ix3_1, sx3_1, ix3_2, sx3_2, ix5_0, sx5_0, ix5_1, sx5_1, ix5_2, sx5_2, ix5_3, sx5_3, ix5_4, sx5_4, Option.isNone_none, Bool.and_self, Bool.true_and, Bool.and_true, setAt_eq, oD0, oDs, st0, sts, wipe0, wipes, Option.map_some, Option.bind_some, cont_nx, cont_rt, cond_t, cond_f, cond_bl, not_bl, tst_bl, scal_int, scal_bl, scal_str, scal_non, valO_rt, valO_nx, wipeO_nx, wipeO_rt, wipeC_some, wipeF_some, isL_lst, l0, l1, l2, l3, l4, l5, l6, l7, l8, l9, l10, l11, l12, l13, l14, l15, l16, l17, l18, l19, l20, l21, l22, l23, l24, l25, l26, l27, l28, l29, l30, l31, l32, l33, l34, l35, l36, l37, l38, l39, l40, l41, l42, l43, l44, l45, l46, l47, l48, l49, l50, l51, l52, l53, l54, l55, l56, l57, l58, l59, l60, l61, l62, l63, l64, l65, l66, l67, l68, l69, l99, l100, l101, l131, l1000, l1001, l7919, l10007, l27183, l48271, l62089, l69621, l1000003, l1140671, l27644437, l32416187, l1103515245, l2147483587, l2147483629, l2147483647, l1000000000000000000, o_lst0, o_lst1, o_lst2, o_lst3, o_lst4, o_lst5, o_lst6, o_lst7, o_lst8, o_lst9, o_lst10, o_lst11, o_lst12, o_tup2, o_tup3, o_addn, o_neg1, o_ltn, o_len', o_gtn, o_gen, o_eqn, o_nen, o_eql, o_nel, o_eqll, o_nell, o_nenl, o_nenll, o_eqnl, o_eqnll, o_len, o_len0, o_lenD, o_drop, o_take, o_takez, arr10, arr01, arr0, arr210, arr012, arr120, arr201, o_rev, o_listOf, o_listOfT, o_tupOf, List.length_map, it_list, it_tup, it_rev, it_enum, it_zip, o_allb, o_all, o_any, o_anyb, o_sum, o_srt, o_inn, o_notin, o_innl, o_notinl, o_count, o_toInt, turnB, clauseB, clauseF, if_true, if_false, Bool.false_eq_true, Bool.not_true, Bool.not_false, v_whole]) (by rw [h.len]; simp -implicitDefEqProofs only [List.length_nil, LIM]; omega)
  have hs := h.sort
  have hl := h.len
  subst hl
  have c3 : o.all (fun _ => true) = true := by simp
  simp -implicitDefEqProofs only [f1, startD, List.map_cons, List.map_nil, List.length_cons, List.length_nil, List.replicate, List.cons_append, List.nil_append, Nat.sub_self, Nat.sub_zero, Nat.zero_add, Nat.reduceAdd, Nat.reduceSub, ev_var, ev_vin, ev_mov, ev_ref, ev_int, ev_bl, ev_non, ev_str, ev_gint, ev_op, evs_nil, evs_cons, ev_and, ev_or, ev_not, ev_ite, ev_scal, ev_tall, ev_chn, ev_comp, ev_comp2, evc_nil, evc_one, bind_nm, bind_tp2, bind_tl2, bind_tp3, bind_tp4, evSs_nil, evSs_cons, evS_asg, evS_par2, evS_par3, evS_sub, evS_sub2, evS_augs, evS_ex, evS_ret, evS_retN, evS_iff, evS_pass, evS_for, evS_whl, ev_call, ev_callk, ev_app, ev_pop, ev_popi, noRef, isRef_var, isRef_vin, isRef_mov, isRef_int, isRef_bl, isRef_str, isRef_pop, isRef_not, isRef_scal, isRef_non, isRef_op, isRef_gint, isRef_and, isRef_or, isRef_ite, isRef_call, isRef_callk, isRef_app, isRef_popi, isRef_comp, isRef_comp2, isRef_tall, isRef_chn, isRef_ref, ev_callR, eva_nil, eva_ref, eva_e, fill_nil, fill_ref, fill_e, back_nil, back_ref, back_e, fin1, fin2, fin3, Option.isNone_some, Bool.false_and, aug_lst, augn, ix3_0, sx3_0, ix3_1, sx3_1, ix3_2, sx3_2, ix5_0, sx5_0, ix5_1, sx5_1, ix5_2, sx5_2, ix5_3, sx5_3, ix5_4, sx5_4, Option.isNone_none, Bool.and_self, Bool.true_and, Bool.and_true, setAt_eq, oD0, oDs, st0, sts, wipe0, wipes, Option.map_some, Option.bind_some, cont_nx, cont_rt, cond_t, cond_f, cond_bl, not_bl, tst_bl, scal_int, scal_bl, scal_str, scal_non, valO_rt, valO_nx, wipeO_nx, wipeO_rt, wipeC_some, wipeF_some, isL_lst, l0, l1, l2, l3, l4, l5, l6, l7, l8, l9, l10, l11, l12, l13, l14, l15, l16, l17, l18, l19, l20, l21, l22, l23, l24, l25, l26, l27, l28, l29, l30, l31, l32, l33, l34, l35, l36, l37, l38, l39, l40, l41, l42, l43, l44, l45, l46, l47, l48, l49, l50, l51, l52, l53, l54, l55, l56, l57, l58, l59, l60, l61, l62, l63, l64, l65, l66, l67, l68, l69, l99, l100, l101, l131, l1000, l1001, l7919, l10007, l27183, l48271, l62089, l69621, l1000003, l1140671, l27644437, l32416187, l1103515245, l2147483587, l2147483629, l2147483647, l1000000000000000000, o_lst0, o_lst1, o_lst2, o_lst3, o_lst4, o_lst5, o_lst6, o_lst7, o_lst8, o_lst9, o_lst10, o_lst11, o_lst12, o_tup2, o_tup3, o_addn, o_neg1, o_ltn, o_len', o_gtn, o_gen, o_eqn, o_nen, o_eql, o_nel, o_eqll, o_nell, o_nenl, o_nenll, o_eqnl, o_eqnll, o_len, o_len0, o_lenD, o_drop, o_take, o_takez, arr10, arr01, arr0, arr210, arr012, arr120, arr201, o_rev, o_listOf, o_listOfT, o_tupOf, List.length_map, it_list, it_tup, it_rev, it_enum, it_zip, o_allb, o_all, o_any, o_anyb, o_sum, o_srt, o_inn, o_notin, o_innl, o_notinl, o_count, o_toInt, turnB, clauseB, clauseF, if_true, if_false, Bool.false_eq_true, Bool.not_true, Bool.not_false, isi_i_int, isi_i_bool, isi_i_list, isi_i_tuple, isi_i_str, isi2_i, isn_i, notn_i, isb_i, isi_b_int, isi_b_bool, isi_b_list, isi_b_tuple, isi_b_str, isi2_b, isn_b, notn_b, isb_b, isi_s_int, isi_s_bool, isi_s_list, isi_s_tuple, isi_s_str, isi2_s, isn_s, notn_s, isb_s, isi_n_int, isi_n_bool, isi_n_list, isi_n_tuple, isi_n_str, isi2_n, isn_n, notn_n, isb_n, isi_l_int, isi_l_bool, isi_l_list, isi_l_tuple, isi_l_str, isi2_l, isn_l, notn_l, isb_l, isi_t_int, isi_t_bool, isi_t_list, isi_t_tuple, isi_t_str, isi2_t, isn_t, notn_t, isb_t, isi_d_int, isi_d_bool, isi_d_list, isi_d_tuple, isi_d_str, isi2_d, isn_d, notn_d, isb_d, e, h1, h8, decide_true, c3, o_lr1 (show o.length ≤ LIM by simp -implicitDefEqProofs only [LIM]; omega), hs]
theorem v_check_order {k n : Nat} {o : List Nat} (h : IsOrd n o) (h1 : 1 ≤ n) (h8 : n ≤ 8) : valC (callD P (k + 3)) 2 [dl o] = some .non := by
  rw [vc (F := f2) rfl rfl]
  simp -implicitDefEqProofs only [f2, startD, List.map_cons, List.map_nil, List.length_cons, List.length_nil, List.replicate, List.cons_append, List.nil_append, Nat.sub_self, Nat.sub_zero, Nat.zero_add, Nat.reduceAdd, Nat.reduceSub, ev_var, ev_vin, ev_mov, ev_ref, ev_int, ev_bl, ev_non, ev_str, ev_gint, ev_op, evs_nil, evs_cons, ev_and, ev_or, ev_not, ev_ite, ev_scal, ev_tall, ev_chn, ev_comp, ev_comp2, evc_nil, evc_one, bind_nm, bind_tp2, bind_tl2, bind_tp3, bind_tp4, evSs_nil, evSs_cons, evS_asg, evS_par2, evS_par3, evS_sub, evS_sub2, evS_augs, evS_ex, evS_ret, evS_retN, evS_iff, evS_pass, evS_for, evS_whl, ev_call, ev_callk, ev_app, ev_pop, ev_popi, noRef, isRef_var, isRef_vin, isRef_mov, isRef_int, isRef_bl, isRef_str, isRef_pop, isRef_not, isRef_scal, isRef_non, isRef_op, isRef_gint, isRef_and, isRef_or, isRef_ite, isRef_call, isRef_callk, isRef_app, isRef_popi, isRef_comp, isRef_comp2, isRef_tall, isRef_chn, isRef_ref, ev_callR, eva_nil, eva_ref, eva_e, fill_nil, fill_ref, fill_e, back_nil, back_ref, back_e, fin1, fin2, fin3, Option.isNone_some, Bool.false_and, aug_lst, augn, ix3_0, sx3_0, ix3_1, sx3_1, ix3_2, sx3_2, ix5_0, sx5_0, ix5_1, sx5_1, ix5_2, sx5_2, ix5_3, sx5_3, ix5_4, sx5_4, Option.isNone_none, Bool.and_self, Bool.true_and, Bool.and_true, setAt_eq, oD0, oDs, st0, sts, wipe0, wipes, Option.map_some, Option.bind_some, cont_nx, cont_rt, cond_t, cond_f, cond_bl, not_bl, tst_bl, scal_int, scal_bl, scal_str, scal_non, valO_rt, valO_nx, wipeO_nx, wipeO_rt, wipeC_some, wipeF_some, isL_lst, l0, l1, l2, l3, l4, l5, l6, l7, l8, l9, l10, l11, l12, l13, l14, l15, l16, l17, l18, l19, l20, l21, l22, l23, l24, l25, l26, l27, l28, l29, l30, l31, l32, l33, l34, l35, l36, l37, l38, l39, l40, l41, l42, l43, l44, l45, l46, l47, l48, l49, l50, l51, l52, l53, l54, l55, l56, l57, l58, l59, l60, l61, l62, l63, l64, l65, l66, l67, l68, l69, l99, l100, l101, l131, l1000, l1001, l7919, l10007, l27183, l48271, l62089, l69621, l1000003, l1140671, l27644437, l32416187, l1103515245, l2147483587, l2147483629, l2147483647, l1000000000000000000, o_lst0, o_lst1, o_lst2, o_lst3, o_lst4, o_lst5, o_lst6, o_lst7, o_lst8, o_lst9, o_lst10, o_lst11, o_lst12, o_tup2, o_tup3, o_addn, o_neg1, o_ltn, o_len', o_gtn, o_gen, o_eqn, o_nen, o_eql, o_nel, o_eqll, o_nell, o_nenl, o_nenll, o_eqnl, o_eqnll, o_len, o_len0, o_lenD, o_drop, o_take, o_takez, arr10, arr01, arr0, arr210, arr012, arr120, arr201, o_rev, o_listOf, o_listOfT, o_tupOf, List.length_map, it_list, it_tup, it_rev, it_enum, it_zip, o_allb, o_all, o_any, o_anyb, o_sum, o_srt, o_inn, o_notin, o_innl, o_notinl, o_count, o_toInt, turnB, clauseB, clauseF, if_true, if_false, Bool.false_eq_true, Bool.not_true, Bool.not_false, v_is_order h h1 h8]
theorem v_check_pattern {k n : Nat} {o : List Nat} (h : IsOrd n o) (h1 : 1 ≤ n) (h8 : n ≤ 8) : valC (callD P (k + 3)) 3 [dl o] = some .non := by
  rw [vc (F := f3) rfl rfl]
  simp -implicitDefEqProofs only [f3, startD, List.map_cons, List.map_nil, List.length_cons, List.length_nil, List.replicate, List.cons_append, List.nil_append, Nat.sub_self, Nat.sub_zero, Nat.zero_add, Nat.reduceAdd, Nat.reduceSub, ev_var, ev_vin, ev_mov, ev_ref, ev_int, ev_bl, ev_non, ev_str, ev_gint, ev_op, evs_nil, evs_cons, ev_and, ev_or, ev_not, ev_ite, ev_scal, ev_tall, ev_chn, ev_comp, ev_comp2, evc_nil, evc_one, bind_nm, bind_tp2, bind_tl2, bind_tp3, bind_tp4, evSs_nil, evSs_cons, evS_asg, evS_par2, evS_par3, evS_sub, evS_sub2, evS_augs, evS_ex, evS_ret, evS_retN, evS_iff, evS_pass, evS_for, evS_whl, ev_call, ev_callk, ev_app, ev_pop, ev_popi, noRef, isRef_var, isRef_vin, isRef_mov, isRef_int, isRef_bl, isRef_str, isRef_pop, isRef_not, isRef_scal, isRef_non, isRef_op, isRef_gint, isRef_and, isRef_or, isRef_ite, isRef_call, isRef_callk, isRef_app, isRef_popi, isRef_comp, isRef_comp2, isRef_tall, isRef_chn, isRef_ref, ev_callR, eva_nil, eva_ref, eva_e, fill_nil, fill_ref, fill_e, back_nil, back_ref, back_e, fin1, fin2, fin3, Option.isNone_some, Bool.false_and, aug_lst, augn, ix3_0, sx3_0, ix3_1, sx3_1, ix3_2, sx3_2, ix5_0, sx5_0, ix5_1, sx5_1, ix5_2, sx5_2, ix5_3, sx5_3, ix5_4, sx5_4, Option.isNone_none, Bool.and_self, Bool.true_and, Bool.and_true, setAt_eq, oD0, oDs, st0, sts, wipe0, wipes, Option.map_some, Option.bind_some, cont_nx, cont_rt, cond_t, cond_f, cond_bl, not_bl, tst_bl, scal_int, scal_bl, scal_str, scal_non, valO_rt, valO_nx, wipeO_nx, wipeO_rt, wipeC_some, wipeF_some, isL_lst, l0, l1, l2, l3, l4, l5, l6, l7, l8, l9, l10, l11, l12, l13, l14, l15, l16, l17, l18, l19, l20, l21, l22, l23, l24, l25, l26, l27, l28, l29, l30, l31, l32, l33, l34, l35, l36, l37, l38, l39, l40, l41, l42, l43, l44, l45, l46, l47, l48, l49, l50, l51, l52, l53, l54, l55, l56, l57, l58, l59, l60, l61, l62, l63, l64, l65, l66, l67, l68, l69, l99, l100, l101, l131, l1000, l1001, l7919, l10007, l27183, l48271, l62089, l69621, l1000003, l1140671, l27644437, l32416187, l1103515245, l2147483587, l2147483629, l2147483647, l1000000000000000000, o_lst0, o_lst1, o_lst2, o_lst3, o_lst4, o_lst5, o_lst6, o_lst7, o_lst8, o_lst9, o_lst10, o_lst11, o_lst12, o_tup2, o_tup3, o_addn, o_neg1, o_ltn, o_len', o_gtn, o_gen, o_eqn, o_nen, o_eql, o_nel, o_eqll, o_nell, o_nenl, o_nenll, o_eqnl, o_eqnll, o_len, o_len0, o_lenD, o_drop, o_take, o_takez, arr10, arr01, arr0, arr210, arr012, arr120, arr201, o_rev, o_listOf, o_listOfT, o_tupOf, List.length_map, it_list, it_tup, it_rev, it_enum, it_zip, o_allb, o_all, o_any, o_anyb, o_sum, o_srt, o_inn, o_notin, o_innl, o_notinl, o_count, o_toInt, turnB, clauseB, clauseF, if_true, if_false, Bool.false_eq_true, Bool.not_true, Bool.not_false, v_is_order h h1 h8]
theorem v_check_size {k n : Nat} (h1 : 1 ≤ n) (h8 : n ≤ 8) : valC (callD P (k + 2)) 4 [dn n] = some .non := by
  rw [vc (F := f4) rfl rfl]
  simp -implicitDefEqProofs only [f4, startD, List.map_cons, List.map_nil, List.length_cons, List.length_nil, List.replicate, List.cons_append, List.nil_append, Nat.sub_self, Nat.sub_zero, Nat.zero_add, Nat.reduceAdd, Nat.reduceSub, ev_var, ev_vin, ev_mov, ev_ref, ev_int, ev_bl, ev_non, ev_str, ev_gint, ev_op, evs_nil, evs_cons, ev_and, ev_or, ev_not, ev_ite, ev_scal, ev_tall, ev_chn, ev_comp, ev_comp2, evc_nil, evc_one, bind_nm, bind_tp2, bind_tl2, bind_tp3, bind_tp4, evSs_nil, evSs_cons, evS_asg, evS_par2, evS_par3, evS_sub, evS_sub2, evS_augs, evS_ex, evS_ret, evS_retN, evS_iff, evS_pass, evS_for, evS_whl, ev_call, ev_callk, ev_app, ev_pop, ev_popi, noRef, isRef_var, isRef_vin, isRef_mov, isRef_int, isRef_bl, isRef_str, isRef_pop, isRef_not, isRef_scal, isRef_non, isRef_op, isRef_gint, isRef_and, isRef_or, isRef_ite, isRef_call, isRef_callk, isRef_app, isRef_popi, isRef_comp, isRef_comp2, isRef_tall, isRef_chn, isRef_ref, ev_callR, eva_nil, eva_ref, eva_e, fill_nil, fill_ref, fill_e, back_nil, back_ref, back_e, fin1, fin2, fin3, Option.isNone_some, Bool.false_and, aug_lst, augn, ix3_0, sx3_0, ix3_1, sx3_1, ix3_2, sx3_2, ix5_0, sx5_0, ix5_1, sx5_1, ix5_2, sx5_2, ix5_3, sx5_3, ix5_4, sx5_4, Option.isNone_none, Bool.and_self, Bool.true_and, Bool.and_true, setAt_eq, oD0, oDs, st0, sts, wipe0, wipes, Option.map_some, Option.bind_some, cont_nx, cont_rt, cond_t, cond_f, cond_bl, not_bl, tst_bl, scal_int, scal_bl, scal_str, scal_non, valO_rt, valO_nx, wipeO_nx, wipeO_rt, wipeC_some, wipeF_some, isL_lst, l0, l1, l2, l3, l4, l5, l6, l7, l8, l9, l10, l11, l12, l13, l14, l15, l16, l17, l18, l19, l20, l21, l22, l23, l24, l25, l26, l27, l28, l29, l30, l31, l32, l33, l34, l35, l36, l37, l38, l39, l40, l41, l42, l43, l44, l45, l46, l47, l48, l49, l50, l51, l52, l53, l54, l55, l56, l57, l58, l59, l60, l61, l62, l63, l64, l65, l66, l67, l68, l69, l99, l100, l101, l131, l1000, l1001, l7919, l10007, l27183, l48271, l62089, l69621, l1000003, l1140671, l27644437, l32416187, l1103515245, l2147483587, l2147483629, l2147483647, l1000000000000000000, o_lst0, o_lst1, o_lst2, o_lst3, o_lst4, o_lst5, o_lst6, o_lst7, o_lst8, o_lst9, o_lst10, o_lst11, o_lst12, o_tup2, o_tup3, o_addn, o_neg1, o_ltn, o_len', o_gtn, o_gen, o_eqn, o_nen, o_eql, o_nel, o_eqll, o_nell, o_nenl, o_nenll, o_eqnl, o_eqnll, o_len, o_len0, o_lenD, o_drop, o_take, o_takez, arr10, arr01, arr0, arr210, arr012, arr120, arr201, o_rev, o_listOf, o_listOfT, o_tupOf, List.length_map, it_list, it_tup, it_rev, it_enum, it_zip, o_allb, o_all, o_any, o_anyb, o_sum, o_srt, o_inn, o_notin, o_innl, o_notinl, o_count, o_toInt, turnB, clauseB, clauseF, if_true, if_false, Bool.false_eq_true, Bool.not_true, Bool.not_false, v_whole, h1, h8, decide_true]
/-! ### patterns in rounds -/
theorem v_law_pattern {k : Nat} {xs : List Nat} (h : xs.length ≤ 64) : valC (callD P (k + 1)) 15 [dl xs] = some (dl (patternBy xs)) := by
  rw [vc (F := f15) rfl rfl]
  simp -implicitDefEqProofs only [f15, startD, List.map_cons, List.map_nil, List.length_cons, List.length_nil, List.replicate, List.cons_append, List.nil_append, Nat.sub_self, Nat.sub_zero, Nat.zero_add, Nat.reduceAdd, Nat.reduceSub, ev_var, ev_vin, ev_mov, ev_ref, ev_int, ev_bl, ev_non, ev_str, ev_gint, ev_op, evs_nil, evs_cons, ev_and, ev_or, ev_not, ev_ite, ev_scal, ev_tall, ev_chn, ev_comp, ev_comp2, evc_nil, evc_one, bind_nm, bind_tp2, bind_tl2, bind_tp3, bind_tp4, evSs_nil, evSs_cons, evS_asg, evS_par2, evS_par3, evS_sub, evS_sub2, evS_augs, evS_ex, evS_ret, evS_retN, evS_iff, evS_pass, evS_for, evS_whl, ev_call, ev_callk, ev_app, ev_pop, ev_popi, noRef, isRef_var, isRef_vin, isRef_mov, isRef_int, isRef_bl, isRef_str, isRef_pop, isRef_not, isRef_scal, isRef_non, isRef_op, isRef_gint, isRef_and, isRef_or, isRef_ite, isRef_call, isRef_callk, isRef_app, isRef_popi, isRef_comp, isRef_comp2, isRef_tall, isRef_chn, isRef_ref, ev_callR, eva_nil, eva_ref, eva_e, fill_nil, fill_ref, fill_e, back_nil, back_ref, back_e, fin1, fin2, fin3, Option.isNone_some, Bool.false_and, aug_lst, augn, ix3_0, sx3_0, ix3_1, sx3_1, ix3_2, sx3_2, ix5_0, sx5_0, ix5_1, sx5_1, ix5_2, sx5_2, ix5_3, sx5_3, ix5_4, sx5_4, Option.isNone_none, Bool.and_self, Bool.true_and, Bool.and_true, setAt_eq, oD0, oDs, st0, sts, wipe0, wipes, Option.map_some, Option.bind_some, cont_nx, cont_rt, cond_t, cond_f, cond_bl, not_bl, tst_bl, scal_int, scal_bl, scal_str, scal_non, valO_rt, valO_nx, wipeO_nx, wipeO_rt, wipeC_some, wipeF_some, isL_lst, l0, l1, l2, l3, l4, l5, l6, l7, l8, l9, l10, l11, l12, l13, l14, l15, l16, l17, l18, l19, l20, l21, l22, l23, l24, l25, l26, l27, l28, l29, l30, l31, l32, l33, l34, l35, l36, l37, l38, l39, l40, l41, l42, l43, l44, l45, l46, l47, l48, l49, l50, l51, l52, l53, l54, l55, l56, l57, l58, l59, l60, l61, l62, l63, l64, l65, l66, l67, l68, l69, l99, l100, l101, l131, l1000, l1001, l7919, l10007, l27183, l48271, l62089, l69621, l1000003, l1140671, l27644437, l32416187, l1103515245, l2147483587, l2147483629, l2147483647, l1000000000000000000, o_lst0, o_lst1, o_lst2, o_lst3, o_lst4, o_lst5, o_lst6, o_lst7, o_lst8, o_lst9, o_lst10, o_lst11, o_lst12, o_tup2, o_tup3, o_addn, o_neg1, o_ltn, o_len', o_gtn, o_gen, o_eqn, o_nen, o_eql, o_nel, o_eqll, o_nell, o_nenl, o_nenll, o_eqnl, o_eqnll, o_len, o_len0, o_lenD, o_drop, o_take, o_takez, arr10, arr01, arr0, arr210, arr012, arr120, arr201, o_rev, o_listOf, o_listOfT, o_tupOf, List.length_map, it_list, it_tup, it_rev, it_enum, it_zip, o_allb, o_all, o_any, o_anyb, o_sum, o_srt, o_inn, o_notin, o_innl, o_notinl, o_count, o_toInt, turnB, clauseB, clauseF, if_true, if_false, Bool.false_eq_true, Bool.not_true, Bool.not_false]
  rw [compD_all (fun v => dn ((sortN xs).idxOf v)) (by rfl) (fun x hx => ?_) (by simp [LIM]; omega)]
  · simp -implicitDefEqProofs only [ev_var, ev_vin, ev_mov, ev_ref, ev_int, ev_bl, ev_non, ev_str, ev_gint, ev_op, evs_nil, evs_cons, ev_and, ev_or, ev_not, ev_ite, ev_scal, ev_tall, ev_chn, ev_comp, ev_comp2, evc_nil, evc_one, bind_nm, bind_tp2, bind_tl2, bind_tp3, bind_tp4, evSs_nil, evSs_cons, evS_asg, evS_par2, evS_par3, evS_sub, evS_sub2, evS_augs, evS_ex, evS_ret, evS_retN, evS_iff, evS_pass, evS_for, evS_whl, ev_call, ev_callk, ev_app, ev_pop, ev_popi, noRef, isRef_var, isRef_vin, isRef_mov, isRef_int, isRef_bl, isRef_str, isRef_pop, isRef_not, isRef_scal, isRef_non, isRef_op, isRef_gint, isRef_and, isRef_or, isRef_ite, isRef_call, isRef_callk, isRef_app, isRef_popi, isRef_comp, isRef_comp2, isRef_tall, isRef_chn, isRef_ref, ev_callR, eva_nil, eva_ref, eva_e, fill_nil, fill_ref, fill_e, back_nil, back_ref, back_e, fin1, fin2, fin3, Option.isNone_some, Bool.false_and, aug_lst, augn, ix3_0, sx3_0, ix3_1, sx3_1, ix3_2, sx3_2, ix5_0, sx5_0, ix5_1, sx5_1, ix5_2, sx5_2, ix5_3, sx5_3, ix5_4, sx5_4, Option.isNone_none, Bool.and_self, Bool.true_and, Bool.and_true, setAt_eq, oD0, oDs, st0, sts, wipe0, wipes, Option.map_some, Option.bind_some, cont_nx, cont_rt, cond_t, cond_f, cond_bl, not_bl, tst_bl, scal_int, scal_bl, scal_str, scal_non, valO_rt, valO_nx, wipeO_nx, wipeO_rt, wipeC_some, wipeF_some, isL_lst, l0, l1, l2, l3, l4, l5, l6, l7, l8, l9, l10, l11, l12, l13, l14, l15, l16, l17, l18, l19, l20, l21, l22, l23, l24, l25, l26, l27, l28, l29, l30, l31, l32, l33, l34, l35, l36, l37, l38, l39, l40, l41, l42, l43, l44, l45, l46, l47, l48, l49, l50, l51, l52, l53, l54, l55, l56, l57, l58, l59, l60, l61, l62, l63, l64, l65, l66, l67, l68, l69, l99, l100, l101, l131, l1000, l1001, l7919, l10007, l27183, l48271, l62089, l69621, l1000003, l1140671, l27644437, l32416187, l1103515245, l2147483587, l2147483629, l2147483647, l1000000000000000000, o_lst0, o_lst1, o_lst2, o_lst3, o_lst4, o_lst5, o_lst6, o_lst7, o_lst8, o_lst9, o_lst10, o_lst11, o_lst12, o_tup2, o_tup3, o_addn, o_neg1, o_ltn, o_len', o_gtn, o_gen, o_eqn, o_nen, o_eql, o_nel, o_eqll, o_nell, o_nenl, o_nenll, o_eqnl, o_eqnll, o_len, o_len0, o_lenD, o_drop, o_take, o_takez, arr10, arr01, arr0, arr210, arr012, arr120, arr201, o_rev, o_listOf, o_listOfT, o_tupOf, List.length_map, it_list, it_tup, it_rev, it_enum, it_zip, o_allb, o_all, o_any, o_anyb, o_sum, o_srt, o_inn, o_notin, o_innl, o_notinl, o_count, o_toInt, turnB, clauseB, clauseF, if_true, if_false, Bool.false_eq_true, Bool.not_true, Bool.not_false, List.nil_append]
    rw [patternBy, dl, List.map_map]; rfl
  · simp -implicitDefEqProofs only [ev_var, ev_vin, ev_mov, ev_ref, ev_int, ev_bl, ev_non, ev_str, ev_gint, ev_op, evs_nil, evs_cons, ev_and, ev_or, ev_not, ev_ite, ev_scal, ev_tall, ev_chn, ev_comp, ev_comp2, evc_nil, evc_one, bind_nm, bind_tp2, bind_tl2, bind_tp3, bind_tp4, evSs_nil, evSs_cons, evS_asg, evS_par2, evS_par3, evS_sub, evS_sub2, evS_augs, evS_ex, evS_ret, evS_retN, evS_iff, evS_pass, evS_for, evS_whl, ev_call, ev_callk, ev_app, ev_pop, ev_popi, noRef, isRef_var, isRef_vin, isRef_mov, isRef_int, isRef_bl, isRef_str, isRef_pop, isRef_not, isRef_scal, isRef_non, isRef_op, isRef_gint, isRef_and, isRef_or, isRef_ite, isRef_call, isRef_callk, isRef_app, isRef_popi, isRef_comp, isRef_comp2, isRef_tall, isRef_chn, isRef_ref, ev_callR, eva_nil, eva_ref, eva_e, fill_nil, fill_ref, fill_e, back_nil, back_ref, back_e, fin1, fin2, fin3, Option.isNone_some, Bool.false_and, aug_lst, augn, ix3_0, sx3_0, ix3_1, sx3_1, ix3_2, sx3_2, ix5_0, sx5_0, ix5_1, sx5_1, ix5_2, sx5_2, ix5_3, sx5_3, ix5_4, sx5_4, Option.isNone_none, Bool.and_self, Bool.true_and, Bool.and_true, setAt_eq, oD0, oDs, st0, sts, wipe0, wipes, Option.map_some, Option.bind_some, cont_nx, cont_rt, cond_t, cond_f, cond_bl, not_bl, tst_bl, scal_int, scal_bl, scal_str, scal_non, valO_rt, valO_nx, wipeO_nx, wipeO_rt, wipeC_some, wipeF_some, isL_lst, l0, l1, l2, l3, l4, l5, l6, l7, l8, l9, l10, l11, l12, l13, l14, l15, l16, l17, l18, l19, l20, l21, l22, l23, l24, l25, l26, l27, l28, l29, l30, l31, l32, l33, l34, l35, l36, l37, l38, l39, l40, l41, l42, l43, l44, l45, l46, l47, l48, l49, l50, l51, l52, l53, l54, l55, l56, l57, l58, l59, l60, l61, l62, l63, l64, l65, l66, l67, l68, l69, l99, l100, l101, l131, l1000, l1001, l7919, l10007, l27183, l48271, l62089, l69621, l1000003, l1140671, l27644437, l32416187, l1103515245, l2147483587, l2147483629, l2147483647, l1000000000000000000, o_lst0, o_lst1, o_lst2, o_lst3, o_lst4, o_lst5, o_lst6, o_lst7, o_lst8, o_lst9, o_lst10, o_lst11, o_lst12, o_tup2, o_tup3, o_addn, o_neg1, o_ltn, o_len', o_gtn, o_gen, o_eqn, o_nen, o_eql, o_nel, o_eqll, o_nell, o_nenl, o_nenll, o_eqnl, o_eqnll, o_len, o_len0, o_lenD, o_drop, o_take, o_takez, arr10, arr01, arr0, arr210, arr012, arr120, arr201, o_rev, o_listOf, o_listOfT, o_tupOf, List.length_map, it_list, it_tup, it_rev, it_enum, it_zip, o_allb, o_all, o_any, o_anyb, o_sum, o_srt, o_inn, o_notin, o_innl, o_notinl, o_count, o_toInt, turnB, clauseB, clauseF, if_true, if_false, Bool.false_eq_true, Bool.not_true, Bool.not_false, o_indexm (sortN_mem.mpr hx)]
def atL (o lot : List Nat) : List Nat := lot.map fun p => o.getD p 0
def turned (o : List Nat) (m : Nat) : List Nat := o.drop m ++ o.take m
theorem turned_len {o : List Nat} {m : Nat} : (turned o m).length = o.length := by
  unfold turned
  rw [List.length_append, List.length_drop, List.length_take]; omega
theorem o_ixd {o : List Nat} {p : Nat} (h : p < o.length) : opD .ix [dl o, dn p] = some (dn (o.getD p 0)) := by
  rw [o_ixg h, List.getD_eq_getElem?_getD, List.getElem?_eq_getElem h]; rfl
theorem v_at_lot {k : Nat} {o lot : List Nat} (h : ∀ p ∈ lot, p < o.length) (hl : lot.length ≤ 64) : valC (callD P (k + 2)) 6 [dl o, dl lot] = some (dl (patternBy (atL o lot))) := by
  rw [vc (F := f6) rfl rfl]
  simp -implicitDefEqProofs only [f6, startD, List.map_cons, List.map_nil, List.length_cons, List.length_nil, List.replicate, List.cons_append, List.nil_append, Nat.sub_self, Nat.sub_zero, Nat.zero_add, Nat.reduceAdd, Nat.reduceSub, ev_var, ev_vin, ev_mov, ev_ref, ev_int, ev_bl, ev_non, ev_str, ev_gint, ev_op, evs_nil, evs_cons, ev_and, ev_or, ev_not, ev_ite, ev_scal, ev_tall, ev_chn, ev_comp, ev_comp2, evc_nil, evc_one, bind_nm, bind_tp2, bind_tl2, bind_tp3, bind_tp4, evSs_nil, evSs_cons, evS_asg, evS_par2, evS_par3, evS_sub, evS_sub2, evS_augs, evS_ex, evS_ret, evS_retN, evS_iff, evS_pass, evS_for, evS_whl, ev_call, ev_callk, ev_app, ev_pop, ev_popi, noRef, isRef_var, isRef_vin, isRef_mov, isRef_int, isRef_bl, isRef_str, isRef_pop, isRef_not, isRef_scal, isRef_non, isRef_op, isRef_gint, isRef_and, isRef_or, isRef_ite, isRef_call, isRef_callk, isRef_app, isRef_popi, isRef_comp, isRef_comp2, isRef_tall, isRef_chn, isRef_ref, ev_callR, eva_nil, eva_ref, eva_e, fill_nil, fill_ref, fill_e, back_nil, back_ref, back_e, fin1, fin2, fin3, Option.isNone_some, Bool.false_and, aug_lst, augn, ix3_0, sx3_0, ix3_1, sx3_1, ix3_2, sx3_2, ix5_0, sx5_0, ix5_1, sx5_1, ix5_2, sx5_2, ix5_3, sx5_3, ix5_4, sx5_4, Option.isNone_none, Bool.and_self, Bool.true_and, Bool.and_true, setAt_eq, oD0, oDs, st0, sts, wipe0, wipes, Option.map_some, Option.bind_some, cont_nx, cont_rt, cond_t, cond_f, cond_bl, not_bl, tst_bl, scal_int, scal_bl, scal_str, scal_non, valO_rt, valO_nx, wipeO_nx, wipeO_rt, wipeC_some, wipeF_some, isL_lst, l0, l1, l2, l3, l4, l5, l6, l7, l8, l9, l10, l11, l12, l13, l14, l15, l16, l17, l18, l19, l20, l21, l22, l23, l24, l25, l26, l27, l28, l29, l30, l31, l32, l33, l34, l35, l36, l37, l38, l39, l40, l41, l42, l43, l44, l45, l46, l47, l48, l49, l50, l51, l52, l53, l54, l55, l56, l57, l58, l59, l60, l61, l62, l63, l64, l65, l66, l67, l68, l69, l99, l100, l101, l131, l1000, l1001, l7919, l10007, l27183, l48271, l62089, l69621, l1000003, l1140671, l27644437, l32416187, l1103515245, l2147483587, l2147483629, l2147483647, l1000000000000000000, o_lst0, o_lst1, o_lst2, o_lst3, o_lst4, o_lst5, o_lst6, o_lst7, o_lst8, o_lst9, o_lst10, o_lst11, o_lst12, o_tup2, o_tup3, o_addn, o_neg1, o_ltn, o_len', o_gtn, o_gen, o_eqn, o_nen, o_eql, o_nel, o_eqll, o_nell, o_nenl, o_nenll, o_eqnl, o_eqnll, o_len, o_len0, o_lenD, o_drop, o_take, o_takez, arr10, arr01, arr0, arr210, arr012, arr120, arr201, o_rev, o_listOf, o_listOfT, o_tupOf, List.length_map, it_list, it_tup, it_rev, it_enum, it_zip, o_allb, o_all, o_any, o_anyb, o_sum, o_srt, o_inn, o_notin, o_innl, o_notinl, o_count, o_toInt, turnB, clauseB, clauseF, if_true, if_false, Bool.false_eq_true, Bool.not_true, Bool.not_false]
  rw [compD_all (fun p => dn (o.getD p 0)) (by rfl) (fun x hx => ?_) (by simp [LIM]; omega)]
  · have e : (D.lst ([] ++ lot.map fun p => dn (o.getD p 0))) = dl (atL o lot) := by
      rw [List.nil_append, dl, atL, List.map_map]; rfl
    simp -implicitDefEqProofs only [ev_var, ev_vin, ev_mov, ev_ref, ev_int, ev_bl, ev_non, ev_str, ev_gint, ev_op, evs_nil, evs_cons, ev_and, ev_or, ev_not, ev_ite, ev_scal, ev_tall, ev_chn, ev_comp, ev_comp2, evc_nil, evc_one, bind_nm, bind_tp2, bind_tl2, bind_tp3, bind_tp4, evSs_nil, evSs_cons, evS_asg, evS_par2, evS_par3, evS_sub, evS_sub2, evS_augs, evS_ex, evS_ret, evS_retN, evS_iff, evS_pass, evS_for, evS_whl, ev_call, ev_callk, ev_app, ev_pop, ev_popi, noRef, isRef_var, isRef_vin, isRef_mov, isRef_int, isRef_bl, isRef_str, isRef_pop, isRef_not, isRef_scal, isRef_non, isRef_op, isRef_gint, isRef_and, isRef_or, isRef_ite, isRef_call, isRef_callk, isRef_app, isRef_popi, isRef_comp, isRef_comp2, isRef_tall, isRef_chn, isRef_ref, ev_callR, eva_nil, eva_ref, eva_e, fill_nil, fill_ref, fill_e, back_nil, back_ref, back_e, fin1, fin2, fin3, Option.isNone_some, Bool.false_and, aug_lst, augn, ix3_0, sx3_0, ix3_1, sx3_1, ix3_2, sx3_2, ix5_0, sx5_0, ix5_1, sx5_1, ix5_2, sx5_2, ix5_3, sx5_3, ix5_4, sx5_4, Option.isNone_none, Bool.and_self, Bool.true_and, Bool.and_true, setAt_eq, oD0, oDs, st0, sts, wipe0, wipes, Option.map_some, Option.bind_some, cont_nx, cont_rt, cond_t, cond_f, cond_bl, not_bl, tst_bl, scal_int, scal_bl, scal_str, scal_non, valO_rt, valO_nx, wipeO_nx, wipeO_rt, wipeC_some, wipeF_some, isL_lst, l0, l1, l2, l3, l4, l5, l6, l7, l8, l9, l10, l11, l12, l13, l14, l15, l16, l17, l18, l19, l20, l21, l22, l23, l24, l25, l26, l27, l28, l29, l30, l31, l32, l33, l34, l35, l36, l37, l38, l39, l40, l41, l42, l43, l44, l45, l46, l47, l48, l49, l50, l51, l52, l53, l54, l55, l56, l57, l58, l59, l60, l61, l62, l63, l64, l65, l66, l67, l68, l69, l99, l100, l101, l131, l1000, l1001, l7919, l10007, l27183, l48271, l62089, l69621, l1000003, l1140671, l27644437, l32416187, l1103515245, l2147483587, l2147483629, l2147483647, l1000000000000000000, o_lst0, o_lst1, o_lst2, o_lst3, o_lst4, o_lst5, o_lst6, o_lst7, o_lst8, o_lst9, o_lst10, o_lst11, o_lst12, o_tup2, o_tup3, o_addn, o_neg1, o_ltn, o_len', o_gtn, o_gen, o_eqn, o_nen, o_eql, o_nel, o_eqll, o_nell, o_nenl, o_nenll, o_eqnl, o_eqnll, o_len, o_len0, o_lenD, o_drop, o_take, o_takez, arr10, arr01, arr0, arr210, arr012, arr120, arr201, o_rev, o_listOf, o_listOfT, o_tupOf, List.length_map, it_list, it_tup, it_rev, it_enum, it_zip, o_allb, o_all, o_any, o_anyb, o_sum, o_srt, o_inn, o_notin, o_innl, o_notinl, o_count, o_toInt, turnB, clauseB, clauseF, if_true, if_false, Bool.false_eq_true, Bool.not_true, Bool.not_false, e, v_pattern (xs := atL o lot) (k := k) (by unfold atL; rw [List.length_map]; exact hl)]
  · simp -implicitDefEqProofs only [ev_var, ev_vin, ev_mov, ev_ref, ev_int, ev_bl, ev_non, ev_str, ev_gint, ev_op, evs_nil, evs_cons, ev_and, ev_or, ev_not, ev_ite, ev_scal, ev_tall, ev_chn, ev_comp, ev_comp2, evc_nil, evc_one, bind_nm, bind_tp2, bind_tl2, bind_tp3, bind_tp4, evSs_nil, evSs_cons, evS_asg, evS_par2, evS_par3, evS_sub, evS_sub2, evS_augs, evS_ex, evS_ret, evS_retN, evS_iff, evS_pass, evS_for, evS_whl, ev_call, ev_callk, ev_app, ev_pop, ev_popi, noRef, isRef_var, isRef_vin, isRef_mov, isRef_int, isRef_bl, isRef_str, isRef_pop, isRef_not, isRef_scal, isRef_non, isRef_op, isRef_gint, isRef_and, isRef_or, isRef_ite, isRef_call, isRef_callk, isRef_app, isRef_popi, isRef_comp, isRef_comp2, isRef_tall, isRef_chn, isRef_ref, ev_callR, eva_nil, eva_ref, eva_e, fill_nil, fill_ref, fill_e, back_nil, back_ref, back_e, fin1, fin2, fin3, Option.isNone_some, Bool.false_and, aug_lst, augn, ix3_0, sx3_0, ix3_1, sx3_1, ix3_2, sx3_2, ix5_0, sx5_0, ix5_1, sx5_1, ix5_2, sx5_2, ix5_3, sx5_3, ix5_4, sx5_4, Option.isNone_none, Bool.and_self, Bool.true_and, Bool.and_true, setAt_eq, oD0, oDs, st0, sts, wipe0, wipes, Option.map_some, Option.bind_some, cont_nx, cont_rt, cond_t, cond_f, cond_bl, not_bl, tst_bl, scal_int, scal_bl, scal_str, scal_non, valO_rt, valO_nx, wipeO_nx, wipeO_rt, wipeC_some, wipeF_some, isL_lst, l0, l1, l2, l3, l4, l5, l6, l7, l8, l9, l10, l11, l12, l13, l14, l15, l16, l17, l18, l19, l20, l21, l22, l23, l24, l25, l26, l27, l28, l29, l30, l31, l32, l33, l34, l35, l36, l37, l38, l39, l40, l41, l42, l43, l44, l45, l46, l47, l48, l49, l50, l51, l52, l53, l54, l55, l56, l57, l58, l59, l60, l61, l62, l63, l64, l65, l66, l67, l68, l69, l99, l100, l101, l131, l1000, l1001, l7919, l10007, l27183, l48271, l62089, l69621, l1000003, l1140671, l27644437, l32416187, l1103515245, l2147483587, l2147483629, l2147483647, l1000000000000000000, o_lst0, o_lst1, o_lst2, o_lst3, o_lst4, o_lst5, o_lst6, o_lst7, o_lst8, o_lst9, o_lst10, o_lst11, o_lst12, o_tup2, o_tup3, o_addn, o_neg1, o_ltn, o_len', o_gtn, o_gen, o_eqn, o_nen, o_eql, o_nel, o_eqll, o_nell, o_nenl, o_nenll, o_eqnl, o_eqnll, o_len, o_len0, o_lenD, o_drop, o_take, o_takez, arr10, arr01, arr0, arr210, arr012, arr120, arr201, o_rev, o_listOf, o_listOfT, o_tupOf, List.length_map, it_list, it_tup, it_rev, it_enum, it_zip, o_allb, o_all, o_any, o_anyb, o_sum, o_srt, o_inn, o_notin, o_innl, o_notinl, o_count, o_toInt, turnB, clauseB, clauseF, if_true, if_false, Bool.false_eq_true, Bool.not_true, Bool.not_false, o_ixd (h x hx)]
theorem v_turned {k m : Nat} {o : List Nat} (h : o.length ≤ 64) : valC (callD P (k + 1)) 9 [dl o, dn m] = some (dl (turned o m)) := by
  rw [vc (F := f9) rfl rfl]
  simp -implicitDefEqProofs only [f9, startD, List.map_cons, List.map_nil, List.length_cons, List.length_nil, List.replicate, List.cons_append, List.nil_append, Nat.sub_self, Nat.sub_zero, Nat.zero_add, Nat.reduceAdd, Nat.reduceSub, ev_var, ev_vin, ev_mov, ev_ref, ev_int, ev_bl, ev_non, ev_str, ev_gint, ev_op, evs_nil, evs_cons, ev_and, ev_or, ev_not, ev_ite, ev_scal, ev_tall, ev_chn, ev_comp, ev_comp2, evc_nil, evc_one, bind_nm, bind_tp2, bind_tl2, bind_tp3, bind_tp4, evSs_nil, evSs_cons, evS_asg, evS_par2, evS_par3, evS_sub, evS_sub2, evS_augs, evS_ex, evS_ret, evS_retN, evS_iff, evS_pass, evS_for, evS_whl, ev_call, ev_callk, ev_app, ev_pop, ev_popi, noRef, isRef_var, isRef_vin, isRef_mov, isRef_int, isRef_bl, isRef_str, isRef_pop, isRef_not, isRef_scal, isRef_non, isRef_op, isRef_gint, isRef_and, isRef_or, isRef_ite, isRef_call, isRef_callk, isRef_app, isRef_popi, isRef_comp, isRef_comp2, isRef_tall, isRef_chn, isRef_ref, ev_callR, eva_nil, eva_ref, eva_e, fill_nil, fill_ref, fill_e, back_nil, back_ref, back_e, fin1, fin2, fin3, Option.isNone_some, Bool.false_and, aug_lst, augn, ix3_0, sx3_0, ix3_1, sx3_1, ix3_2, sx3_2, ix5_0, sx5_0, ix5_1, sx5_1, ix5_2, sx5_2, ix5_3, sx5_3, ix5_4, sx5_4, Option.isNone_none, Bool.and_self, Bool.true_and, Bool.and_true, setAt_eq, oD0, oDs, st0, sts, wipe0, wipes, Option.map_some, Option.bind_some, cont_nx, cont_rt, cond_t, cond_f, cond_bl, not_bl, tst_bl, scal_int, scal_bl, scal_str, scal_non, valO_rt, valO_nx, wipeO_nx, wipeO_rt, wipeC_some, wipeF_some, isL_lst, l0, l1, l2, l3, l4, l5, l6, l7, l8, l9, l10, l11, l12, l13, l14, l15, l16, l17, l18, l19, l20, l21, l22, l23, l24, l25, l26, l27, l28, l29, l30, l31, l32, l33, l34, l35, l36, l37, l38, l39, l40, l41, l42, l43, l44, l45, l46, l47, l48, l49, l50, l51, l52, l53, l54, l55, l56, l57, l58, l59, l60, l61, l62, l63, l64, l65, l66, l67, l68, l69, l99, l100, l101, l131, l1000, l1001, l7919, l10007, l27183, l48271, l62089, l69621, l1000003, l1140671, l27644437, l32416187, l1103515245, l2147483587, l2147483629, l2147483647, l1000000000000000000, o_lst0, o_lst1, o_lst2, o_lst3, o_lst4, o_lst5, o_lst6, o_lst7, o_lst8, o_lst9, o_lst10, o_lst11, o_lst12, o_tup2, o_tup3, o_addn, o_neg1, o_ltn, o_len', o_gtn, o_gen, o_eqn, o_nen, o_eql, o_nel, o_eqll, o_nell, o_nenl, o_nenll, o_eqnl, o_eqnll, o_len, o_len0, o_lenD, o_drop, o_take, o_takez, arr10, arr01, arr0, arr210, arr012, arr120, arr201, o_rev, o_listOf, o_listOfT, o_tupOf, List.length_map, it_list, it_tup, it_rev, it_enum, it_zip, o_allb, o_all, o_any, o_anyb, o_sum, o_srt, o_inn, o_notin, o_innl, o_notinl, o_count, o_toInt, turnB, clauseB, clauseF, if_true, if_false, Bool.false_eq_true, Bool.not_true, Bool.not_false, o_catf (f := dn) (show (o.drop m).length + (o.take m).length ≤ LIM by rw [List.length_drop, List.length_take]; simp -implicitDefEqProofs only [LIM]; omega), tall_l (Nat.le_refl 1)]
  rfl
/-- the first lot at a turn -/
def lotAt (o p : List Nat) (m : Nat) : Option (List Nat) := (lotsSized o.length p.length).find? fun lot => decide (patternBy (atL (turned o m) lot) = p)
def roundD (o p : List Nat) : D := match (List.range o.length).find? (fun m => (lotAt o p m).isSome) with
  | some m => .tup [dn m, dl ((lotAt o p m).getD [])]
  | none => .non
theorem lot_in {o : List Nat} {s m : Nat} {lot : List Nat} (h : lot ∈ lotsSized o.length s) : (∀ p ∈ lot, p < (turned o m).length) ∧ lot.length = s := by
  obtain ⟨a, b⟩ := lots_ok lot h
  exact ⟨fun p hp => by rw [turned_len]; exact b p hp, a⟩
theorem v_round {k : Nat} {o p : List Nat} (ho : o.length ≤ 8) (hp : p.length ≤ 8) : valC (callD P (k + 3)) 10 [dl o, dl p] = some (roundD o p) := by
  rw [vc (F := f10) rfl rfl]
  simp -implicitDefEqProofs only [f10, startD, List.map_cons, List.map_nil, List.length_cons, List.length_nil, List.replicate, List.cons_append, List.nil_append, Nat.sub_self, Nat.sub_zero, Nat.zero_add, Nat.reduceAdd, Nat.reduceSub, ev_var, ev_vin, ev_mov, ev_ref, ev_int, ev_bl, ev_non, ev_str, ev_gint, ev_op, evs_nil, evs_cons, ev_and, ev_or, ev_not, ev_ite, ev_scal, ev_tall, ev_chn, ev_comp, ev_comp2, evc_nil, evc_one, bind_nm, bind_tp2, bind_tl2, bind_tp3, bind_tp4, evSs_nil, evSs_cons, evS_asg, evS_par2, evS_par3, evS_sub, evS_sub2, evS_augs, evS_ex, evS_ret, evS_retN, evS_iff, evS_pass, evS_for, evS_whl, ev_call, ev_callk, ev_app, ev_pop, ev_popi, noRef, isRef_var, isRef_vin, isRef_mov, isRef_int, isRef_bl, isRef_str, isRef_pop, isRef_not, isRef_scal, isRef_non, isRef_op, isRef_gint, isRef_and, isRef_or, isRef_ite, isRef_call, isRef_callk, isRef_app, isRef_popi, isRef_comp, isRef_comp2, isRef_tall, isRef_chn, isRef_ref, ev_callR, eva_nil, eva_ref, eva_e, fill_nil, fill_ref, fill_e, back_nil, back_ref, back_e, fin1, fin2, fin3, Option.isNone_some, Bool.false_and, aug_lst, augn, ix3_0, sx3_0, ix3_1, sx3_1, ix3_2, sx3_2, ix5_0, sx5_0, ix5_1, sx5_1, ix5_2, sx5_2, ix5_3, sx5_3, ix5_4, sx5_4, Option.isNone_none, Bool.and_self, Bool.true_and, Bool.and_true, setAt_eq, oD0, oDs, st0, sts, wipe0, wipes, Option.map_some, Option.bind_some, cont_nx, cont_rt, cond_t, cond_f, cond_bl, not_bl, tst_bl, scal_int, scal_bl, scal_str, scal_non, valO_rt, valO_nx, wipeO_nx, wipeO_rt, wipeC_some, wipeF_some, isL_lst, l0, l1, l2, l3, l4, l5, l6, l7, l8, l9, l10, l11, l12, l13, l14, l15, l16, l17, l18, l19, l20, l21, l22, l23, l24, l25, l26, l27, l28, l29, l30, l31, l32, l33, l34, l35, l36, l37, l38, l39, l40, l41, l42, l43, l44, l45, l46, l47, l48, l49, l50, l51, l52, l53, l54, l55, l56, l57, l58, l59, l60, l61, l62, l63, l64, l65, l66, l67, l68, l69, l99, l100, l101, l131, l1000, l1001, l7919, l10007, l27183, l48271, l62089, l69621, l1000003, l1140671, l27644437, l32416187, l1103515245, l2147483587, l2147483629, l2147483647, l1000000000000000000, o_lst0, o_lst1, o_lst2, o_lst3, o_lst4, o_lst5, o_lst6, o_lst7, o_lst8, o_lst9, o_lst10, o_lst11, o_lst12, o_tup2, o_tup3, o_addn, o_neg1, o_ltn, o_len', o_gtn, o_gen, o_eqn, o_nen, o_eql, o_nel, o_eqll, o_nell, o_nenl, o_nenll, o_eqnl, o_eqnll, o_len, o_len0, o_lenD, o_drop, o_take, o_takez, arr10, arr01, arr0, arr210, arr012, arr120, arr201, o_rev, o_listOf, o_listOfT, o_tupOf, List.length_map, it_list, it_tup, it_rev, it_enum, it_zip, o_allb, o_all, o_any, o_anyb, o_sum, o_srt, o_inn, o_notin, o_innl, o_notinl, o_count, o_toInt, turnB, clauseB, clauseF, if_true, if_false, Bool.false_eq_true, Bool.not_true, Bool.not_false, it_r1 (show o.length ≤ LIM by simp -implicitDefEqProofs only [LIM]; omega)]
  rw [forD_find (fun m => (lotAt o p m).isSome) (fun m => .tup [dn m, dl ((lotAt o p m).getD [])]) (fun m => [some (dl o), some (dl p), some (dn m), some (dl ((lotAt o p m).getD []))]) (ρ1 := [some (dl o), some (dl p), none, none]) rfl rfl (fun m hm => ?_)]
  · unfold roundD
    cases (List.range o.length).find? (fun m => (lotAt o p m).isSome) with
    | none => simp -implicitDefEqProofs only [ev_var, ev_vin, ev_mov, ev_ref, ev_int, ev_bl, ev_non, ev_str, ev_gint, ev_op, evs_nil, evs_cons, ev_and, ev_or, ev_not, ev_ite, ev_scal, ev_tall, ev_chn, ev_comp, ev_comp2, evc_nil, evc_one, bind_nm, bind_tp2, bind_tl2, bind_tp3, bind_tp4, evSs_nil, evSs_cons, evS_asg, evS_par2, evS_par3, evS_sub, evS_sub2, evS_augs, evS_ex, evS_ret, evS_retN, evS_iff, evS_pass, evS_for, evS_whl, ev_call, ev_callk, ev_app, ev_pop, ev_popi, noRef, isRef_var, isRef_vin, isRef_mov, isRef_int, isRef_bl, isRef_str, isRef_pop, isRef_not, isRef_scal, isRef_non, isRef_op, isRef_gint, isRef_and, isRef_or, isRef_ite, isRef_call, isRef_callk, isRef_app, isRef_popi, isRef_comp, isRef_comp2, isRef_tall, isRef_chn, isRef_ref, ev_callR, eva_nil, eva_ref, eva_e, fill_nil, fill_ref, fill_e, back_nil, back_ref, back_e, fin1, fin2, fin3, Option.isNone_some, Bool.false_and, aug_lst, augn, ix3_0, sx3_0, ix3_1, sx3_1, ix3_2, sx3_2, ix5_0, sx5_0, ix5_1, sx5_1, ix5_2, sx5_2, ix5_3, sx5_3, ix5_4, sx5_4, Option.isNone_none, Bool.and_self, Bool.true_and, Bool.and_true, setAt_eq, oD0, oDs, st0, sts, wipe0, wipes, Option.map_some, Option.bind_some, cont_nx, cont_rt, cond_t, cond_f, cond_bl, not_bl, tst_bl, scal_int, scal_bl, scal_str, scal_non, valO_rt, valO_nx, wipeO_nx, wipeO_rt, wipeC_some, wipeF_some, isL_lst, l0, l1, l2, l3, l4, l5, l6, l7, l8, l9, l10, l11, l12, l13, l14, l15, l16, l17, l18, l19, l20, l21, l22, l23, l24, l25, l26, l27, l28, l29, l30, l31, l32, l33, l34, l35, l36, l37, l38, l39, l40, l41, l42, l43, l44, l45, l46, l47, l48, l49, l50, l51, l52, l53, l54, l55, l56, l57, l58, l59, l60, l61, l62, l63, l64, l65, l66, l67, l68, l69, l99, l100, l101, l131, l1000, l1001, l7919, l10007, l27183, l48271, l62089, l69621, l1000003, l1140671, l27644437, l32416187, l1103515245, l2147483587, l2147483629, l2147483647, l1000000000000000000, o_lst0, o_lst1, o_lst2, o_lst3, o_lst4, o_lst5, o_lst6, o_lst7, o_lst8, o_lst9, o_lst10, o_lst11, o_lst12, o_tup2, o_tup3, o_addn, o_neg1, o_ltn, o_len', o_gtn, o_gen, o_eqn, o_nen, o_eql, o_nel, o_eqll, o_nell, o_nenl, o_nenll, o_eqnl, o_eqnll, o_len, o_len0, o_lenD, o_drop, o_take, o_takez, arr10, arr01, arr0, arr210, arr012, arr120, arr201, o_rev, o_listOf, o_listOfT, o_tupOf, List.length_map, it_list, it_tup, it_rev, it_enum, it_zip, o_allb, o_all, o_any, o_anyb, o_sum, o_srt, o_inn, o_notin, o_innl, o_notinl, o_count, o_toInt, turnB, clauseB, clauseF, if_true, if_false, Bool.false_eq_true, Bool.not_true, Bool.not_false]
    | some m => simp -implicitDefEqProofs only [ev_var, ev_vin, ev_mov, ev_ref, ev_int, ev_bl, ev_non, ev_str, ev_gint, ev_op, evs_nil, evs_cons, ev_and, ev_or, ev_not, ev_ite, ev_scal, ev_tall, ev_chn, ev_comp, ev_comp2, evc_nil, evc_one, bind_nm, bind_tp2, bind_tl2, bind_tp3, bind_tp4, evSs_nil, evSs_cons, evS_asg, evS_par2, evS_par3, evS_sub, evS_sub2, evS_augs, evS_ex, evS_ret, evS_retN, evS_iff, evS_pass, evS_for, evS_whl, ev_call, ev_callk, ev_app, ev_pop, ev_popi, noRef, isRef_var, isRef_vin, isRef_mov, isRef_int, isRef_bl, isRef_str, isRef_pop, isRef_not, isRef_scal, isRef_non, isRef_op, isRef_gint, isRef_and, isRef_or, isRef_ite, isRef_call, isRef_callk, isRef_app, isRef_popi, isRef_comp, isRef_comp2, isRef_tall, isRef_chn, isRef_ref, ev_callR, eva_nil, eva_ref, eva_e, fill_nil, fill_ref, fill_e, back_nil, back_ref, back_e, fin1, fin2, fin3, Option.isNone_some, Bool.false_and, aug_lst, augn, ix3_0, sx3_0, ix3_1, sx3_1, ix3_2, sx3_2, ix5_0, sx5_0, ix5_1, sx5_1, ix5_2, sx5_2, ix5_3, sx5_3, ix5_4, sx5_4, Option.isNone_none, Bool.and_self, Bool.true_and, Bool.and_true, setAt_eq, oD0, oDs, st0, sts, wipe0, wipes, Option.map_some, Option.bind_some, cont_nx, cont_rt, cond_t, cond_f, cond_bl, not_bl, tst_bl, scal_int, scal_bl, scal_str, scal_non, valO_rt, valO_nx, wipeO_nx, wipeO_rt, wipeC_some, wipeF_some, isL_lst, l0, l1, l2, l3, l4, l5, l6, l7, l8, l9, l10, l11, l12, l13, l14, l15, l16, l17, l18, l19, l20, l21, l22, l23, l24, l25, l26, l27, l28, l29, l30, l31, l32, l33, l34, l35, l36, l37, l38, l39, l40, l41, l42, l43, l44, l45, l46, l47, l48, l49, l50, l51, l52, l53, l54, l55, l56, l57, l58, l59, l60, l61, l62, l63, l64, l65, l66, l67, l68, l69, l99, l100, l101, l131, l1000, l1001, l7919, l10007, l27183, l48271, l62089, l69621, l1000003, l1140671, l27644437, l32416187, l1103515245, l2147483587, l2147483629, l2147483647, l1000000000000000000, o_lst0, o_lst1, o_lst2, o_lst3, o_lst4, o_lst5, o_lst6, o_lst7, o_lst8, o_lst9, o_lst10, o_lst11, o_lst12, o_tup2, o_tup3, o_addn, o_neg1, o_ltn, o_len', o_gtn, o_gen, o_eqn, o_nen, o_eql, o_nel, o_eqll, o_nell, o_nenl, o_nenll, o_eqnl, o_eqnll, o_len, o_len0, o_lenD, o_drop, o_take, o_takez, arr10, arr01, arr0, arr210, arr012, arr120, arr201, o_rev, o_listOf, o_listOfT, o_tupOf, List.length_map, it_list, it_tup, it_rev, it_enum, it_zip, o_allb, o_all, o_any, o_anyb, o_sum, o_srt, o_inn, o_notin, o_innl, o_notinl, o_count, o_toInt, turnB, clauseB, clauseF, if_true, if_false, Bool.false_eq_true, Bool.not_true, Bool.not_false]
  · simp -implicitDefEqProofs only [ev_var, ev_vin, ev_mov, ev_ref, ev_int, ev_bl, ev_non, ev_str, ev_gint, ev_op, evs_nil, evs_cons, ev_and, ev_or, ev_not, ev_ite, ev_scal, ev_tall, ev_chn, ev_comp, ev_comp2, evc_nil, evc_one, bind_nm, bind_tp2, bind_tl2, bind_tp3, bind_tp4, evSs_nil, evSs_cons, evS_asg, evS_par2, evS_par3, evS_sub, evS_sub2, evS_augs, evS_ex, evS_ret, evS_retN, evS_iff, evS_pass, evS_for, evS_whl, ev_call, ev_callk, ev_app, ev_pop, ev_popi, noRef, isRef_var, isRef_vin, isRef_mov, isRef_int, isRef_bl, isRef_str, isRef_pop, isRef_not, isRef_scal, isRef_non, isRef_op, isRef_gint, isRef_and, isRef_or, isRef_ite, isRef_call, isRef_callk, isRef_app, isRef_popi, isRef_comp, isRef_comp2, isRef_tall, isRef_chn, isRef_ref, ev_callR, eva_nil, eva_ref, eva_e, fill_nil, fill_ref, fill_e, back_nil, back_ref, back_e, fin1, fin2, fin3, Option.isNone_some, Bool.false_and, aug_lst, augn, ix3_0, sx3_0, ix3_1, sx3_1, ix3_2, sx3_2, ix5_0, sx5_0, ix5_1, sx5_1, ix5_2, sx5_2, ix5_3, sx5_3, ix5_4, sx5_4, Option.isNone_none, Bool.and_self, Bool.true_and, Bool.and_true, setAt_eq, oD0, oDs, st0, sts, wipe0, wipes, Option.map_some, Option.bind_some, cont_nx, cont_rt, cond_t, cond_f, cond_bl, not_bl, tst_bl, scal_int, scal_bl, scal_str, scal_non, valO_rt, valO_nx, wipeO_nx, wipeO_rt, wipeC_some, wipeF_some, isL_lst, l0, l1, l2, l3, l4, l5, l6, l7, l8, l9, l10, l11, l12, l13, l14, l15, l16, l17, l18, l19, l20, l21, l22, l23, l24, l25, l26, l27, l28, l29, l30, l31, l32, l33, l34, l35, l36, l37, l38, l39, l40, l41, l42, l43, l44, l45, l46, l47, l48, l49, l50, l51, l52, l53, l54, l55, l56, l57, l58, l59, l60, l61, l62, l63, l64, l65, l66, l67, l68, l69, l99, l100, l101, l131, l1000, l1001, l7919, l10007, l27183, l48271, l62089, l69621, l1000003, l1140671, l27644437, l32416187, l1103515245, l2147483587, l2147483629, l2147483647, l1000000000000000000, o_lst0, o_lst1, o_lst2, o_lst3, o_lst4, o_lst5, o_lst6, o_lst7, o_lst8, o_lst9, o_lst10, o_lst11, o_lst12, o_tup2, o_tup3, o_addn, o_neg1, o_ltn, o_len', o_gtn, o_gen, o_eqn, o_nen, o_eql, o_nel, o_eqll, o_nell, o_nenl, o_nenll, o_eqnl, o_eqnll, o_len, o_len0, o_lenD, o_drop, o_take, o_takez, arr10, arr01, arr0, arr210, arr012, arr120, arr201, o_rev, o_listOf, o_listOfT, o_tupOf, List.length_map, it_list, it_tup, it_rev, it_enum, it_zip, o_allb, o_all, o_any, o_anyb, o_sum, o_srt, o_inn, o_notin, o_innl, o_notinl, o_count, o_toInt, turnB, clauseB, clauseF, if_true, if_false, Bool.false_eq_true, Bool.not_true, Bool.not_false, v_lots_lots_sized (k := k + 1) ho hp]
    rw [forD_find (fun lot => decide (patternBy (atL (turned o m) lot) = p)) (fun lot => .tup [dn m, dl lot]) (fun lot => [some (dl o), some (dl p), some (dn m), some (dl lot)]) (ρ1 := [some (dl o), some (dl p), some (dn m), none]) rfl rfl (fun lot hl => ?_)]
    · have e0 : (lotsSized o.length p.length).find? (fun lot => decide (patternBy (atL (turned o m) lot) = p)) = lotAt o p m := rfl
      rw [e0]
      cases e : lotAt o p m with
      | none => rfl
      | some lot => rfl
    · obtain ⟨l1, l2⟩ := lot_in (m := m) hl
      simp -implicitDefEqProofs only [ev_var, ev_vin, ev_mov, ev_ref, ev_int, ev_bl, ev_non, ev_str, ev_gint, ev_op, evs_nil, evs_cons, ev_and, ev_or, ev_not, ev_ite, ev_scal, ev_tall, ev_chn, ev_comp, ev_comp2, evc_nil, evc_one, bind_nm, bind_tp2, bind_tl2, bind_tp3, bind_tp4, evSs_nil, evSs_cons, evS_asg, evS_par2, evS_par3, evS_sub, evS_sub2, evS_augs, evS_ex, evS_ret, evS_retN, evS_iff, evS_pass, evS_for, evS_whl, ev_call, ev_callk, ev_app, ev_pop, ev_popi, noRef, isRef_var, isRef_vin, isRef_mov, isRef_int, isRef_bl, isRef_str, isRef_pop, isRef_not, isRef_scal, isRef_non, isRef_op, isRef_gint, isRef_and, isRef_or, isRef_ite, isRef_call, isRef_callk, isRef_app, isRef_popi, isRef_comp, isRef_comp2, isRef_tall, isRef_chn, isRef_ref, ev_callR, eva_nil, eva_ref, eva_e, fill_nil, fill_ref, fill_e, back_nil, back_ref, back_e, fin1, fin2, fin3, Option.isNone_some, Bool.false_and, aug_lst, augn, ix3_0, sx3_0, ix3_1, sx3_1, ix3_2, sx3_2, ix5_0, sx5_0, ix5_1, sx5_1, ix5_2, sx5_2, ix5_3, sx5_3, ix5_4, sx5_4, Option.isNone_none, Bool.and_self, Bool.true_and, Bool.and_true, setAt_eq, oD0, oDs, st0, sts, wipe0, wipes, Option.map_some, Option.bind_some, cont_nx, cont_rt, cond_t, cond_f, cond_bl, not_bl, tst_bl, scal_int, scal_bl, scal_str, scal_non, valO_rt, valO_nx, wipeO_nx, wipeO_rt, wipeC_some, wipeF_some, isL_lst, l0, l1, l2, l3, l4, l5, l6, l7, l8, l9, l10, l11, l12, l13, l14, l15, l16, l17, l18, l19, l20, l21, l22, l23, l24, l25, l26, l27, l28, l29, l30, l31, l32, l33, l34, l35, l36, l37, l38, l39, l40, l41, l42, l43, l44, l45, l46, l47, l48, l49, l50, l51, l52, l53, l54, l55, l56, l57, l58, l59, l60, l61, l62, l63, l64, l65, l66, l67, l68, l69, l99, l100, l101, l131, l1000, l1001, l7919, l10007, l27183, l48271, l62089, l69621, l1000003, l1140671, l27644437, l32416187, l1103515245, l2147483587, l2147483629, l2147483647, l1000000000000000000, o_lst0, o_lst1, o_lst2, o_lst3, o_lst4, o_lst5, o_lst6, o_lst7, o_lst8, o_lst9, o_lst10, o_lst11, o_lst12, o_tup2, o_tup3, o_addn, o_neg1, o_ltn, o_len', o_gtn, o_gen, o_eqn, o_nen, o_eql, o_nel, o_eqll, o_nell, o_nenl, o_nenll, o_eqnl, o_eqnll, o_len, o_len0, o_lenD, o_drop, o_take, o_takez, arr10, arr01, arr0, arr210, arr012, arr120, arr201, o_rev, o_listOf, o_listOfT, o_tupOf, List.length_map, it_list, it_tup, it_rev, it_enum, it_zip, o_allb, o_all, o_any, o_anyb, o_sum, o_srt, o_inn, o_notin, o_innl, o_notinl, o_count, o_toInt, turnB, clauseB, clauseF, if_true, if_false, Bool.false_eq_true, Bool.not_true, Bool.not_false, v_turned (k := k + 1) (m := m) (o := o) (by omega), v_at_lot (k := k) l1 (by omega)]
      split <;> rfl
theorem v_first {k : Nat} {o p : List Nat} (ho : o.length ≤ 8) (hp : p.length ≤ 8) : valC (callD P (k + 2)) 13 [dl o, dl p] = some (roundD o p) := by
  rw [vc (F := f13) rfl rfl]
  simp -implicitDefEqProofs only [f13, startD, List.map_cons, List.map_nil, List.length_cons, List.length_nil, List.replicate, List.cons_append, List.nil_append, Nat.sub_self, Nat.sub_zero, Nat.zero_add, Nat.reduceAdd, Nat.reduceSub, ev_var, ev_vin, ev_mov, ev_ref, ev_int, ev_bl, ev_non, ev_str, ev_gint, ev_op, evs_nil, evs_cons, ev_and, ev_or, ev_not, ev_ite, ev_scal, ev_tall, ev_chn, ev_comp, ev_comp2, evc_nil, evc_one, bind_nm, bind_tp2, bind_tl2, bind_tp3, bind_tp4, evSs_nil, evSs_cons, evS_asg, evS_par2, evS_par3, evS_sub, evS_sub2, evS_augs, evS_ex, evS_ret, evS_retN, evS_iff, evS_pass, evS_for, evS_whl, ev_call, ev_callk, ev_app, ev_pop, ev_popi, noRef, isRef_var, isRef_vin, isRef_mov, isRef_int, isRef_bl, isRef_str, isRef_pop, isRef_not, isRef_scal, isRef_non, isRef_op, isRef_gint, isRef_and, isRef_or, isRef_ite, isRef_call, isRef_callk, isRef_app, isRef_popi, isRef_comp, isRef_comp2, isRef_tall, isRef_chn, isRef_ref, ev_callR, eva_nil, eva_ref, eva_e, fill_nil, fill_ref, fill_e, back_nil, back_ref, back_e, fin1, fin2, fin3, Option.isNone_some, Bool.false_and, aug_lst, augn, ix3_0, sx3_0, ix3_1, sx3_1, ix3_2, sx3_2, ix5_0, sx5_0, ix5_1, sx5_1, ix5_2, sx5_2, ix5_3, sx5_3, ix5_4, sx5_4, Option.isNone_none, Bool.and_self, Bool.true_and, Bool.and_true, setAt_eq, oD0, oDs, st0, sts, wipe0, wipes, Option.map_some, Option.bind_some, cont_nx, cont_rt, cond_t, cond_f, cond_bl, not_bl, tst_bl, scal_int, scal_bl, scal_str, scal_non, valO_rt, valO_nx, wipeO_nx, wipeO_rt, wipeC_some, wipeF_some, isL_lst, l0, l1, l2, l3, l4, l5, l6, l7, l8, l9, l10, l11, l12, l13, l14, l15, l16, l17, l18, l19, l20, l21, l22, l23, l24, l25, l26, l27, l28, l29, l30, l31, l32, l33, l34, l35, l36, l37, l38, l39, l40, l41, l42, l43, l44, l45, l46, l47, l48, l49, l50, l51, l52, l53, l54, l55, l56, l57, l58, l59, l60, l61, l62, l63, l64, l65, l66, l67, l68, l69, l99, l100, l101, l131, l1000, l1001, l7919, l10007, l27183, l48271, l62089, l69621, l1000003, l1140671, l27644437, l32416187, l1103515245, l2147483587, l2147483629, l2147483647, l1000000000000000000, o_lst0, o_lst1, o_lst2, o_lst3, o_lst4, o_lst5, o_lst6, o_lst7, o_lst8, o_lst9, o_lst10, o_lst11, o_lst12, o_tup2, o_tup3, o_addn, o_neg1, o_ltn, o_len', o_gtn, o_gen, o_eqn, o_nen, o_eql, o_nel, o_eqll, o_nell, o_nenl, o_nenll, o_eqnl, o_eqnll, o_len, o_len0, o_lenD, o_drop, o_take, o_takez, arr10, arr01, arr0, arr210, arr012, arr120, arr201, o_rev, o_listOf, o_listOfT, o_tupOf, List.length_map, it_list, it_tup, it_rev, it_enum, it_zip, o_allb, o_all, o_any, o_anyb, o_sum, o_srt, o_inn, o_notin, o_innl, o_notinl, o_count, o_toInt, turnB, clauseB, clauseF, if_true, if_false, Bool.false_eq_true, Bool.not_true, Bool.not_false, it_r1 (show o.length ≤ LIM by simp -implicitDefEqProofs only [LIM]; omega)]
  have fnd : ∀ m, ((lotsSized o.length p.length).filter fun lot => decide (patternBy (atL (turned o m) lot) = p)).head? = lotAt o p m := fun m => by
    unfold lotAt; rw [List.head?_filter]
  rw [forD_find (fun m => (lotAt o p m).isSome) (fun m => .tup [dn m, dl ((lotAt o p m).getD [])]) (fun m => [some (dl o), some (dl p), some (dn m), some (dl (turned o m)), some (dll ((lotsSized o.length p.length).filter fun lot => decide (patternBy (atL (turned o m) lot) = p))), none, none]) (ρ1 := [some (dl o), some (dl p), none, none, none, none, none]) rfl rfl (fun m hm => ?_)]
  · unfold roundD
    cases (List.range o.length).find? (fun m => (lotAt o p m).isSome) with
    | none => simp -implicitDefEqProofs only [ev_var, ev_vin, ev_mov, ev_ref, ev_int, ev_bl, ev_non, ev_str, ev_gint, ev_op, evs_nil, evs_cons, ev_and, ev_or, ev_not, ev_ite, ev_scal, ev_tall, ev_chn, ev_comp, ev_comp2, evc_nil, evc_one, bind_nm, bind_tp2, bind_tl2, bind_tp3, bind_tp4, evSs_nil, evSs_cons, evS_asg, evS_par2, evS_par3, evS_sub, evS_sub2, evS_augs, evS_ex, evS_ret, evS_retN, evS_iff, evS_pass, evS_for, evS_whl, ev_call, ev_callk, ev_app, ev_pop, ev_popi, noRef, isRef_var, isRef_vin, isRef_mov, isRef_int, isRef_bl, isRef_str, isRef_pop, isRef_not, isRef_scal, isRef_non, isRef_op, isRef_gint, isRef_and, isRef_or, isRef_ite, isRef_call, isRef_callk, isRef_app, isRef_popi, isRef_comp, isRef_comp2, isRef_tall, isRef_chn, isRef_ref, ev_callR, eva_nil, eva_ref, eva_e, fill_nil, fill_ref, fill_e, back_nil, back_ref, back_e, fin1, fin2, fin3, Option.isNone_some, Bool.false_and, aug_lst, augn, ix3_0, sx3_0, ix3_1, sx3_1, ix3_2, sx3_2, ix5_0, sx5_0, ix5_1, sx5_1, ix5_2, sx5_2, ix5_3, sx5_3, ix5_4, sx5_4, Option.isNone_none, Bool.and_self, Bool.true_and, Bool.and_true, setAt_eq, oD0, oDs, st0, sts, wipe0, wipes, Option.map_some, Option.bind_some, cont_nx, cont_rt, cond_t, cond_f, cond_bl, not_bl, tst_bl, scal_int, scal_bl, scal_str, scal_non, valO_rt, valO_nx, wipeO_nx, wipeO_rt, wipeC_some, wipeF_some, isL_lst, l0, l1, l2, l3, l4, l5, l6, l7, l8, l9, l10, l11, l12, l13, l14, l15, l16, l17, l18, l19, l20, l21, l22, l23, l24, l25, l26, l27, l28, l29, l30, l31, l32, l33, l34, l35, l36, l37, l38, l39, l40, l41, l42, l43, l44, l45, l46, l47, l48, l49, l50, l51, l52, l53, l54, l55, l56, l57, l58, l59, l60, l61, l62, l63, l64, l65, l66, l67, l68, l69, l99, l100, l101, l131, l1000, l1001, l7919, l10007, l27183, l48271, l62089, l69621, l1000003, l1140671, l27644437, l32416187, l1103515245, l2147483587, l2147483629, l2147483647, l1000000000000000000, o_lst0, o_lst1, o_lst2, o_lst3, o_lst4, o_lst5, o_lst6, o_lst7, o_lst8, o_lst9, o_lst10, o_lst11, o_lst12, o_tup2, o_tup3, o_addn, o_neg1, o_ltn, o_len', o_gtn, o_gen, o_eqn, o_nen, o_eql, o_nel, o_eqll, o_nell, o_nenl, o_nenll, o_eqnl, o_eqnll, o_len, o_len0, o_lenD, o_drop, o_take, o_takez, arr10, arr01, arr0, arr210, arr012, arr120, arr201, o_rev, o_listOf, o_listOfT, o_tupOf, List.length_map, it_list, it_tup, it_rev, it_enum, it_zip, o_allb, o_all, o_any, o_anyb, o_sum, o_srt, o_inn, o_notin, o_innl, o_notinl, o_count, o_toInt, turnB, clauseB, clauseF, if_true, if_false, Bool.false_eq_true, Bool.not_true, Bool.not_false]
    | some m => simp -implicitDefEqProofs only [ev_var, ev_vin, ev_mov, ev_ref, ev_int, ev_bl, ev_non, ev_str, ev_gint, ev_op, evs_nil, evs_cons, ev_and, ev_or, ev_not, ev_ite, ev_scal, ev_tall, ev_chn, ev_comp, ev_comp2, evc_nil, evc_one, bind_nm, bind_tp2, bind_tl2, bind_tp3, bind_tp4, evSs_nil, evSs_cons, evS_asg, evS_par2, evS_par3, evS_sub, evS_sub2, evS_augs, evS_ex, evS_ret, evS_retN, evS_iff, evS_pass, evS_for, evS_whl, ev_call, ev_callk, ev_app, ev_pop, ev_popi, noRef, isRef_var, isRef_vin, isRef_mov, isRef_int, isRef_bl, isRef_str, isRef_pop, isRef_not, isRef_scal, isRef_non, isRef_op, isRef_gint, isRef_and, isRef_or, isRef_ite, isRef_call, isRef_callk, isRef_app, isRef_popi, isRef_comp, isRef_comp2, isRef_tall, isRef_chn, isRef_ref, ev_callR, eva_nil, eva_ref, eva_e, fill_nil, fill_ref, fill_e, back_nil, back_ref, back_e, fin1, fin2, fin3, Option.isNone_some, Bool.false_and, aug_lst, augn, ix3_0, sx3_0, ix3_1, sx3_1, ix3_2, sx3_2, ix5_0, sx5_0, ix5_1, sx5_1, ix5_2, sx5_2, ix5_3, sx5_3, ix5_4, sx5_4, Option.isNone_none, Bool.and_self, Bool.true_and, Bool.and_true, setAt_eq, oD0, oDs, st0, sts, wipe0, wipes, Option.map_some, Option.bind_some, cont_nx, cont_rt, cond_t, cond_f, cond_bl, not_bl, tst_bl, scal_int, scal_bl, scal_str, scal_non, valO_rt, valO_nx, wipeO_nx, wipeO_rt, wipeC_some, wipeF_some, isL_lst, l0, l1, l2, l3, l4, l5, l6, l7, l8, l9, l10, l11, l12, l13, l14, l15, l16, l17, l18, l19, l20, l21, l22, l23, l24, l25, l26, l27, l28, l29, l30, l31, l32, l33, l34, l35, l36, l37, l38, l39, l40, l41, l42, l43, l44, l45, l46, l47, l48, l49, l50, l51, l52, l53, l54, l55, l56, l57, l58, l59, l60, l61, l62, l63, l64, l65, l66, l67, l68, l69, l99, l100, l101, l131, l1000, l1001, l7919, l10007, l27183, l48271, l62089, l69621, l1000003, l1140671, l27644437, l32416187, l1103515245, l2147483587, l2147483629, l2147483647, l1000000000000000000, o_lst0, o_lst1, o_lst2, o_lst3, o_lst4, o_lst5, o_lst6, o_lst7, o_lst8, o_lst9, o_lst10, o_lst11, o_lst12, o_tup2, o_tup3, o_addn, o_neg1, o_ltn, o_len', o_gtn, o_gen, o_eqn, o_nen, o_eql, o_nel, o_eqll, o_nell, o_nenl, o_nenll, o_eqnl, o_eqnll, o_len, o_len0, o_lenD, o_drop, o_take, o_takez, arr10, arr01, arr0, arr210, arr012, arr120, arr201, o_rev, o_listOf, o_listOfT, o_tupOf, List.length_map, it_list, it_tup, it_rev, it_enum, it_zip, o_allb, o_all, o_any, o_anyb, o_sum, o_srt, o_inn, o_notin, o_innl, o_notinl, o_count, o_toInt, turnB, clauseB, clauseF, if_true, if_false, Bool.false_eq_true, Bool.not_true, Bool.not_false]
  · simp -implicitDefEqProofs only [ev_var, ev_vin, ev_mov, ev_ref, ev_int, ev_bl, ev_non, ev_str, ev_gint, ev_op, evs_nil, evs_cons, ev_and, ev_or, ev_not, ev_ite, ev_scal, ev_tall, ev_chn, ev_comp, ev_comp2, evc_nil, evc_one, bind_nm, bind_tp2, bind_tl2, bind_tp3, bind_tp4, evSs_nil, evSs_cons, evS_asg, evS_par2, evS_par3, evS_sub, evS_sub2, evS_augs, evS_ex, evS_ret, evS_retN, evS_iff, evS_pass, evS_for, evS_whl, ev_call, ev_callk, ev_app, ev_pop, ev_popi, noRef, isRef_var, isRef_vin, isRef_mov, isRef_int, isRef_bl, isRef_str, isRef_pop, isRef_not, isRef_scal, isRef_non, isRef_op, isRef_gint, isRef_and, isRef_or, isRef_ite, isRef_call, isRef_callk, isRef_app, isRef_popi, isRef_comp, isRef_comp2, isRef_tall, isRef_chn, isRef_ref, ev_callR, eva_nil, eva_ref, eva_e, fill_nil, fill_ref, fill_e, back_nil, back_ref, back_e, fin1, fin2, fin3, Option.isNone_some, Bool.false_and, aug_lst, augn, ix3_0, sx3_0, ix3_1, sx3_1, ix3_2, sx3_2, ix5_0, sx5_0, ix5_1, sx5_1, ix5_2, sx5_2, ix5_3, sx5_3, ix5_4, sx5_4, Option.isNone_none, Bool.and_self, Bool.true_and, Bool.and_true, setAt_eq, oD0, oDs, st0, sts, wipe0, wipes, Option.map_some, Option.bind_some, cont_nx, cont_rt, cond_t, cond_f, cond_bl, not_bl, tst_bl, scal_int, scal_bl, scal_str, scal_non, valO_rt, valO_nx, wipeO_nx, wipeO_rt, wipeC_some, wipeF_some, isL_lst, l0, l1, l2, l3, l4, l5, l6, l7, l8, l9, l10, l11, l12, l13, l14, l15, l16, l17, l18, l19, l20, l21, l22, l23, l24, l25, l26, l27, l28, l29, l30, l31, l32, l33, l34, l35, l36, l37, l38, l39, l40, l41, l42, l43, l44, l45, l46, l47, l48, l49, l50, l51, l52, l53, l54, l55, l56, l57, l58, l59, l60, l61, l62, l63, l64, l65, l66, l67, l68, l69, l99, l100, l101, l131, l1000, l1001, l7919, l10007, l27183, l48271, l62089, l69621, l1000003, l1140671, l27644437, l32416187, l1103515245, l2147483587, l2147483629, l2147483647, l1000000000000000000, o_lst0, o_lst1, o_lst2, o_lst3, o_lst4, o_lst5, o_lst6, o_lst7, o_lst8, o_lst9, o_lst10, o_lst11, o_lst12, o_tup2, o_tup3, o_addn, o_neg1, o_ltn, o_len', o_gtn, o_gen, o_eqn, o_nen, o_eql, o_nel, o_eqll, o_nell, o_nenl, o_nenll, o_eqnl, o_eqnll, o_len, o_len0, o_lenD, o_drop, o_take, o_takez, arr10, arr01, arr0, arr210, arr012, arr120, arr201, o_rev, o_listOf, o_listOfT, o_tupOf, List.length_map, it_list, it_tup, it_rev, it_enum, it_zip, o_allb, o_all, o_any, o_anyb, o_sum, o_srt, o_inn, o_notin, o_innl, o_notinl, o_count, o_toInt, turnB, clauseB, clauseF, if_true, if_false, Bool.false_eq_true, Bool.not_true, Bool.not_false, o_catf (f := dn) (show (o.drop m).length + (o.take m).length ≤ LIM by rw [List.length_drop, List.length_take]; simp -implicitDefEqProofs only [LIM]; omega), v_lots__law_lots_sized (k := k) ho hp]
    rw [compD_some (fun lot => decide (patternBy (atL (turned o m) lot) = p)) dl (ρ1 := [some (dl o), some (dl p), some (dn m), some (dl (turned o m)), none, none, none]) rfl (fun lot hl => ?_) (by
      have := (lots_fold (n := o.length) p.length).2
      have := pow_lim (n := o.length) (t := p.length) ho hp
      simp only [List.length_nil]
      unfold lotsSized
      omega)]
    · simp -implicitDefEqProofs only [ev_var, ev_vin, ev_mov, ev_ref, ev_int, ev_bl, ev_non, ev_str, ev_gint, ev_op, evs_nil, evs_cons, ev_and, ev_or, ev_not, ev_ite, ev_scal, ev_tall, ev_chn, ev_comp, ev_comp2, evc_nil, evc_one, bind_nm, bind_tp2, bind_tl2, bind_tp3, bind_tp4, evSs_nil, evSs_cons, evS_asg, evS_par2, evS_par3, evS_sub, evS_sub2, evS_augs, evS_ex, evS_ret, evS_retN, evS_iff, evS_pass, evS_for, evS_whl, ev_call, ev_callk, ev_app, ev_pop, ev_popi, noRef, isRef_var, isRef_vin, isRef_mov, isRef_int, isRef_bl, isRef_str, isRef_pop, isRef_not, isRef_scal, isRef_non, isRef_op, isRef_gint, isRef_and, isRef_or, isRef_ite, isRef_call, isRef_callk, isRef_app, isRef_popi, isRef_comp, isRef_comp2, isRef_tall, isRef_chn, isRef_ref, ev_callR, eva_nil, eva_ref, eva_e, fill_nil, fill_ref, fill_e, back_nil, back_ref, back_e, fin1, fin2, fin3, Option.isNone_some, Bool.false_and, aug_lst, augn, ix3_0, sx3_0, ix3_1, sx3_1, ix3_2, sx3_2, ix5_0, sx5_0, ix5_1, sx5_1, ix5_2, sx5_2, ix5_3, sx5_3, ix5_4, sx5_4, Option.isNone_none, Bool.and_self, Bool.true_and, Bool.and_true, setAt_eq, oD0, oDs, st0, sts, wipe0, wipes, Option.map_some, Option.bind_some, cont_nx, cont_rt, cond_t, cond_f, cond_bl, not_bl, tst_bl, scal_int, scal_bl, scal_str, scal_non, valO_rt, valO_nx, wipeO_nx, wipeO_rt, wipeC_some, wipeF_some, isL_lst, l0, l1, l2, l3, l4, l5, l6, l7, l8, l9, l10, l11, l12, l13, l14, l15, l16, l17, l18, l19, l20, l21, l22, l23, l24, l25, l26, l27, l28, l29, l30, l31, l32, l33, l34, l35, l36, l37, l38, l39, l40, l41, l42, l43, l44, l45, l46, l47, l48, l49, l50, l51, l52, l53, l54, l55, l56, l57, l58, l59, l60, l61, l62, l63, l64, l65, l66, l67, l68, l69, l99, l100, l101, l131, l1000, l1001, l7919, l10007, l27183, l48271, l62089, l69621, l1000003, l1140671, l27644437, l32416187, l1103515245, l2147483587, l2147483629, l2147483647, l1000000000000000000, o_lst0, o_lst1, o_lst2, o_lst3, o_lst4, o_lst5, o_lst6, o_lst7, o_lst8, o_lst9, o_lst10, o_lst11, o_lst12, o_tup2, o_tup3, o_addn, o_neg1, o_ltn, o_len', o_gtn, o_gen, o_eqn, o_nen, o_eql, o_nel, o_eqll, o_nell, o_nenl, o_nenll, o_eqnl, o_eqnll, o_len, o_len0, o_lenD, o_drop, o_take, o_takez, arr10, arr01, arr0, arr210, arr012, arr120, arr201, o_rev, o_listOf, o_listOfT, o_tupOf, List.length_map, it_list, it_tup, it_rev, it_enum, it_zip, o_allb, o_all, o_any, o_anyb, o_sum, o_srt, o_inn, o_notin, o_innl, o_notinl, o_count, o_toInt, turnB, clauseB, clauseF, if_true, if_false, Bool.false_eq_true, Bool.not_true, Bool.not_false, List.nil_append]
      have f := fnd m
      generalize ((lotsSized o.length p.length).filter fun lot => decide (patternBy (atL (turned o m) lot) = p)) = ls at f ⊢
      cases ls with
      | nil =>
        rw [← f]
        simp -implicitDefEqProofs only [ev_var, ev_vin, ev_mov, ev_ref, ev_int, ev_bl, ev_non, ev_str, ev_gint, ev_op, evs_nil, evs_cons, ev_and, ev_or, ev_not, ev_ite, ev_scal, ev_tall, ev_chn, ev_comp, ev_comp2, evc_nil, evc_one, bind_nm, bind_tp2, bind_tl2, bind_tp3, bind_tp4, evSs_nil, evSs_cons, evS_asg, evS_par2, evS_par3, evS_sub, evS_sub2, evS_augs, evS_ex, evS_ret, evS_retN, evS_iff, evS_pass, evS_for, evS_whl, ev_call, ev_callk, ev_app, ev_pop, ev_popi, noRef, isRef_var, isRef_vin, isRef_mov, isRef_int, isRef_bl, isRef_str, isRef_pop, isRef_not, isRef_scal, isRef_non, isRef_op, isRef_gint, isRef_and, isRef_or, isRef_ite, isRef_call, isRef_callk, isRef_app, isRef_popi, isRef_comp, isRef_comp2, isRef_tall, isRef_chn, isRef_ref, ev_callR, eva_nil, eva_ref, eva_e, fill_nil, fill_ref, fill_e, back_nil, back_ref, back_e, fin1, fin2, fin3, Option.isNone_some, Bool.false_and, aug_lst, augn, ix3_0, sx3_0, ix3_1, sx3_1, ix3_2, sx3_2, ix5_0, sx5_0, ix5_1, sx5_1, ix5_2, sx5_2, ix5_3, sx5_3, ix5_4, sx5_4, Option.isNone_none, Bool.and_self, Bool.true_and, Bool.and_true, setAt_eq, oD0, oDs, st0, sts, wipe0, wipes, Option.map_some, Option.bind_some, cont_nx, cont_rt, cond_t, cond_f, cond_bl, not_bl, tst_bl, scal_int, scal_bl, scal_str, scal_non, valO_rt, valO_nx, wipeO_nx, wipeO_rt, wipeC_some, wipeF_some, isL_lst, l0, l1, l2, l3, l4, l5, l6, l7, l8, l9, l10, l11, l12, l13, l14, l15, l16, l17, l18, l19, l20, l21, l22, l23, l24, l25, l26, l27, l28, l29, l30, l31, l32, l33, l34, l35, l36, l37, l38, l39, l40, l41, l42, l43, l44, l45, l46, l47, l48, l49, l50, l51, l52, l53, l54, l55, l56, l57, l58, l59, l60, l61, l62, l63, l64, l65, l66, l67, l68, l69, l99, l100, l101, l131, l1000, l1001, l7919, l10007, l27183, l48271, l62089, l69621, l1000003, l1140671, l27644437, l32416187, l1103515245, l2147483587, l2147483629, l2147483647, l1000000000000000000, o_lst0, o_lst1, o_lst2, o_lst3, o_lst4, o_lst5, o_lst6, o_lst7, o_lst8, o_lst9, o_lst10, o_lst11, o_lst12, o_tup2, o_tup3, o_addn, o_neg1, o_ltn, o_len', o_gtn, o_gen, o_eqn, o_nen, o_eql, o_nel, o_eqll, o_nell, o_nenl, o_nenll, o_eqnl, o_eqnll, o_len, o_len0, o_lenD, o_drop, o_take, o_takez, arr10, arr01, arr0, arr210, arr012, arr120, arr201, o_rev, o_listOf, o_listOfT, o_tupOf, List.length_map, it_list, it_tup, it_rev, it_enum, it_zip, o_allb, o_all, o_any, o_anyb, o_sum, o_srt, o_inn, o_notin, o_innl, o_notinl, o_count, o_toInt, turnB, clauseB, clauseF, if_true, if_false, Bool.false_eq_true, Bool.not_true, Bool.not_false, List.isEmpty_nil, List.head?_nil, Option.isSome_none]
      | cons l ls =>
        rw [← f]
        simp -implicitDefEqProofs only [ev_var, ev_vin, ev_mov, ev_ref, ev_int, ev_bl, ev_non, ev_str, ev_gint, ev_op, evs_nil, evs_cons, ev_and, ev_or, ev_not, ev_ite, ev_scal, ev_tall, ev_chn, ev_comp, ev_comp2, evc_nil, evc_one, bind_nm, bind_tp2, bind_tl2, bind_tp3, bind_tp4, evSs_nil, evSs_cons, evS_asg, evS_par2, evS_par3, evS_sub, evS_sub2, evS_augs, evS_ex, evS_ret, evS_retN, evS_iff, evS_pass, evS_for, evS_whl, ev_call, ev_callk, ev_app, ev_pop, ev_popi, noRef, isRef_var, isRef_vin, isRef_mov, isRef_int, isRef_bl, isRef_str, isRef_pop, isRef_not, isRef_scal, isRef_non, isRef_op, isRef_gint, isRef_and, isRef_or, isRef_ite, isRef_call, isRef_callk, isRef_app, isRef_popi, isRef_comp, isRef_comp2, isRef_tall, isRef_chn, isRef_ref, ev_callR, eva_nil, eva_ref, eva_e, fill_nil, fill_ref, fill_e, back_nil, back_ref, back_e, fin1, fin2, fin3, Option.isNone_some, Bool.false_and, aug_lst, augn, ix3_0, sx3_0, ix3_1, sx3_1, ix3_2, sx3_2, ix5_0, sx5_0, ix5_1, sx5_1, ix5_2, sx5_2, ix5_3, sx5_3, ix5_4, sx5_4, Option.isNone_none, Bool.and_self, Bool.true_and, Bool.and_true, setAt_eq, oD0, oDs, st0, sts, wipe0, wipes, Option.map_some, Option.bind_some, cont_nx, cont_rt, cond_t, cond_f, cond_bl, not_bl, tst_bl, scal_int, scal_bl, scal_str, scal_non, valO_rt, valO_nx, wipeO_nx, wipeO_rt, wipeC_some, wipeF_some, isL_lst, l0, l1, l2, l3, l4, l5, l6, l7, l8, l9, l10, l11, l12, l13, l14, l15, l16, l17, l18, l19, l20, l21, l22, l23, l24, l25, l26, l27, l28, l29, l30, l31, l32, l33, l34, l35, l36, l37, l38, l39, l40, l41, l42, l43, l44, l45, l46, l47, l48, l49, l50, l51, l52, l53, l54, l55, l56, l57, l58, l59, l60, l61, l62, l63, l64, l65, l66, l67, l68, l69, l99, l100, l101, l131, l1000, l1001, l7919, l10007, l27183, l48271, l62089, l69621, l1000003, l1140671, l27644437, l32416187, l1103515245, l2147483587, l2147483629, l2147483647, l1000000000000000000, o_lst0, o_lst1, o_lst2, o_lst3, o_lst4, o_lst5, o_lst6, o_lst7, o_lst8, o_lst9, o_lst10, o_lst11, o_lst12, o_tup2, o_tup3, o_addn, o_neg1, o_ltn, o_len', o_gtn, o_gen, o_eqn, o_nen, o_eql, o_nel, o_eqll, o_nell, o_nenl, o_nenll, o_eqnl, o_eqnll, o_len, o_len0, o_lenD, o_drop, o_take, o_takez, arr10, arr01, arr0, arr210, arr012, arr120, arr201, o_rev, o_listOf, o_listOfT, o_tupOf, List.length_map, it_list, it_tup, it_rev, it_enum, it_zip, o_allb, o_all, o_any, o_anyb, o_sum, o_srt, o_inn, o_notin, o_innl, o_notinl, o_count, o_toInt, turnB, clauseB, clauseF, if_true, if_false, Bool.false_eq_true, Bool.not_true, Bool.not_false, List.isEmpty_cons, List.head?_cons, Option.isSome_some, o_ix0, Option.getD_some]
    · obtain ⟨l1, l2⟩ := lot_in (m := m) hl
      simp -implicitDefEqProofs only [ev_var, ev_vin, ev_mov, ev_ref, ev_int, ev_bl, ev_non, ev_str, ev_gint, ev_op, evs_nil, evs_cons, ev_and, ev_or, ev_not, ev_ite, ev_scal, ev_tall, ev_chn, ev_comp, ev_comp2, evc_nil, evc_one, bind_nm, bind_tp2, bind_tl2, bind_tp3, bind_tp4, evSs_nil, evSs_cons, evS_asg, evS_par2, evS_par3, evS_sub, evS_sub2, evS_augs, evS_ex, evS_ret, evS_retN, evS_iff, evS_pass, evS_for, evS_whl, ev_call, ev_callk, ev_app, ev_pop, ev_popi, noRef, isRef_var, isRef_vin, isRef_mov, isRef_int, isRef_bl, isRef_str, isRef_pop, isRef_not, isRef_scal, isRef_non, isRef_op, isRef_gint, isRef_and, isRef_or, isRef_ite, isRef_call, isRef_callk, isRef_app, isRef_popi, isRef_comp, isRef_comp2, isRef_tall, isRef_chn, isRef_ref, ev_callR, eva_nil, eva_ref, eva_e, fill_nil, fill_ref, fill_e, back_nil, back_ref, back_e, fin1, fin2, fin3, Option.isNone_some, Bool.false_and, aug_lst, augn, ix3_0, sx3_0, ix3_1, sx3_1, ix3_2, sx3_2, ix5_0, sx5_0, ix5_1, sx5_1, ix5_2, sx5_2, ix5_3, sx5_3, ix5_4, sx5_4, Option.isNone_none, Bool.and_self, Bool.true_and, Bool.and_true, setAt_eq, oD0, oDs, st0, sts, wipe0, wipes, Option.map_some, Option.bind_some, cont_nx, cont_rt, cond_t, cond_f, cond_bl, not_bl, tst_bl, scal_int, scal_bl, scal_str, scal_non, valO_rt, valO_nx, wipeO_nx, wipeO_rt, wipeC_some, wipeF_some, isL_lst, l0, l1, l2, l3, l4, l5, l6, l7, l8, l9, l10, l11, l12, l13, l14, l15, l16, l17, l18, l19, l20, l21, l22, l23, l24, l25, l26, l27, l28, l29, l30, l31, l32, l33, l34, l35, l36, l37, l38, l39, l40, l41, l42, l43, l44, l45, l46, l47, l48, l49, l50, l51, l52, l53, l54, l55, l56, l57, l58, l59, l60, l61, l62, l63, l64, l65, l66, l67, l68, l69, l99, l100, l101, l131, l1000, l1001, l7919, l10007, l27183, l48271, l62089, l69621, l1000003, l1140671, l27644437, l32416187, l1103515245, l2147483587, l2147483629, l2147483647, l1000000000000000000, o_lst0, o_lst1, o_lst2, o_lst3, o_lst4, o_lst5, o_lst6, o_lst7, o_lst8, o_lst9, o_lst10, o_lst11, o_lst12, o_tup2, o_tup3, o_addn, o_neg1, o_ltn, o_len', o_gtn, o_gen, o_eqn, o_nen, o_eql, o_nel, o_eqll, o_nell, o_nenl, o_nenll, o_eqnl, o_eqnll, o_len, o_len0, o_lenD, o_drop, o_take, o_takez, arr10, arr01, arr0, arr210, arr012, arr120, arr201, o_rev, o_listOf, o_listOfT, o_tupOf, List.length_map, it_list, it_tup, it_rev, it_enum, it_zip, o_allb, o_all, o_any, o_anyb, o_sum, o_srt, o_inn, o_notin, o_innl, o_notinl, o_count, o_toInt, turnB, clauseB, clauseF, if_true, if_false, Bool.false_eq_true, Bool.not_true, Bool.not_false]
      rw [compD_all (fun q => dn ((turned o m).getD q 0)) (ρ1 := [some (dl o), some (dl p), some (dn m), some (dl (turned o m)), none, some (dl lot), none]) rfl (fun x hx => ?_) (by simp only [List.length_nil, LIM]; omega)]
      · have e : (D.lst ([] ++ lot.map fun q => dn ((turned o m).getD q 0))) = dl (atL (turned o m) lot) := by
          rw [List.nil_append, dl, atL, List.map_map]; rfl
        simp -implicitDefEqProofs only [ev_var, ev_vin, ev_mov, ev_ref, ev_int, ev_bl, ev_non, ev_str, ev_gint, ev_op, evs_nil, evs_cons, ev_and, ev_or, ev_not, ev_ite, ev_scal, ev_tall, ev_chn, ev_comp, ev_comp2, evc_nil, evc_one, bind_nm, bind_tp2, bind_tl2, bind_tp3, bind_tp4, evSs_nil, evSs_cons, evS_asg, evS_par2, evS_par3, evS_sub, evS_sub2, evS_augs, evS_ex, evS_ret, evS_retN, evS_iff, evS_pass, evS_for, evS_whl, ev_call, ev_callk, ev_app, ev_pop, ev_popi, noRef, isRef_var, isRef_vin, isRef_mov, isRef_int, isRef_bl, isRef_str, isRef_pop, isRef_not, isRef_scal, isRef_non, isRef_op, isRef_gint, isRef_and, isRef_or, isRef_ite, isRef_call, isRef_callk, isRef_app, isRef_popi, isRef_comp, isRef_comp2, isRef_tall, isRef_chn, isRef_ref, ev_callR, eva_nil, eva_ref, eva_e, fill_nil, fill_ref, fill_e, back_nil, back_ref, back_e, fin1, fin2, fin3, Option.isNone_some, Bool.false_and, aug_lst, augn, ix3_0, sx3_0, ix3_1, sx3_1, ix3_2, sx3_2, ix5_0, sx5_0, ix5_1, sx5_1, ix5_2, sx5_2, ix5_3, sx5_3, ix5_4, sx5_4, Option.isNone_none, Bool.and_self, Bool.true_and, Bool.and_true, setAt_eq, oD0, oDs, st0, sts, wipe0, wipes, Option.map_some, Option.bind_some, cont_nx, cont_rt, cond_t, cond_f, cond_bl, not_bl, tst_bl, scal_int, scal_bl, scal_str, scal_non, valO_rt, valO_nx, wipeO_nx, wipeO_rt, wipeC_some, wipeF_some, isL_lst, l0, l1, l2, l3, l4, l5, l6, l7, l8, l9, l10, l11, l12, l13, l14, l15, l16, l17, l18, l19, l20, l21, l22, l23, l24, l25, l26, l27, l28, l29, l30, l31, l32, l33, l34, l35, l36, l37, l38, l39, l40, l41, l42, l43, l44, l45, l46, l47, l48, l49, l50, l51, l52, l53, l54, l55, l56, l57, l58, l59, l60, l61, l62, l63, l64, l65, l66, l67, l68, l69, l99, l100, l101, l131, l1000, l1001, l7919, l10007, l27183, l48271, l62089, l69621, l1000003, l1140671, l27644437, l32416187, l1103515245, l2147483587, l2147483629, l2147483647, l1000000000000000000, o_lst0, o_lst1, o_lst2, o_lst3, o_lst4, o_lst5, o_lst6, o_lst7, o_lst8, o_lst9, o_lst10, o_lst11, o_lst12, o_tup2, o_tup3, o_addn, o_neg1, o_ltn, o_len', o_gtn, o_gen, o_eqn, o_nen, o_eql, o_nel, o_eqll, o_nell, o_nenl, o_nenll, o_eqnl, o_eqnll, o_len, o_len0, o_lenD, o_drop, o_take, o_takez, arr10, arr01, arr0, arr210, arr012, arr120, arr201, o_rev, o_listOf, o_listOfT, o_tupOf, List.length_map, it_list, it_tup, it_rev, it_enum, it_zip, o_allb, o_all, o_any, o_anyb, o_sum, o_srt, o_inn, o_notin, o_innl, o_notinl, o_count, o_toInt, turnB, clauseB, clauseF, if_true, if_false, Bool.false_eq_true, Bool.not_true, Bool.not_false, e, v_law_pattern (k := k) (xs := atL (turned o m) lot) (by unfold atL; rw [List.length_map]; omega)]
        split <;> rfl
      · simp -implicitDefEqProofs only [ev_var, ev_vin, ev_mov, ev_ref, ev_int, ev_bl, ev_non, ev_str, ev_gint, ev_op, evs_nil, evs_cons, ev_and, ev_or, ev_not, ev_ite, ev_scal, ev_tall, ev_chn, ev_comp, ev_comp2, evc_nil, evc_one, bind_nm, bind_tp2, bind_tl2, bind_tp3, bind_tp4, evSs_nil, evSs_cons, evS_asg, evS_par2, evS_par3, evS_sub, evS_sub2, evS_augs, evS_ex, evS_ret, evS_retN, evS_iff, evS_pass, evS_for, evS_whl, ev_call, ev_callk, ev_app, ev_pop, ev_popi, noRef, isRef_var, isRef_vin, isRef_mov, isRef_int, isRef_bl, isRef_str, isRef_pop, isRef_not, isRef_scal, isRef_non, isRef_op, isRef_gint, isRef_and, isRef_or, isRef_ite, isRef_call, isRef_callk, isRef_app, isRef_popi, isRef_comp, isRef_comp2, isRef_tall, isRef_chn, isRef_ref, ev_callR, eva_nil, eva_ref, eva_e, fill_nil, fill_ref, fill_e, back_nil, back_ref, back_e, fin1, fin2, fin3, Option.isNone_some, Bool.false_and, aug_lst, augn, ix3_0, sx3_0, ix3_1, sx3_1, ix3_2, sx3_2, ix5_0, sx5_0, ix5_1, sx5_1, ix5_2, sx5_2, ix5_3, sx5_3, ix5_4, sx5_4, Option.isNone_none, Bool.and_self, Bool.true_and, Bool.and_true, setAt_eq, oD0, oDs, st0, sts, wipe0, wipes, Option.map_some, Option.bind_some, cont_nx, cont_rt, cond_t, cond_f, cond_bl, not_bl, tst_bl, scal_int, scal_bl, scal_str, scal_non, valO_rt, valO_nx, wipeO_nx, wipeO_rt, wipeC_some, wipeF_some, isL_lst, l0, l1, l2, l3, l4, l5, l6, l7, l8, l9, l10, l11, l12, l13, l14, l15, l16, l17, l18, l19, l20, l21, l22, l23, l24, l25, l26, l27, l28, l29, l30, l31, l32, l33, l34, l35, l36, l37, l38, l39, l40, l41, l42, l43, l44, l45, l46, l47, l48, l49, l50, l51, l52, l53, l54, l55, l56, l57, l58, l59, l60, l61, l62, l63, l64, l65, l66, l67, l68, l69, l99, l100, l101, l131, l1000, l1001, l7919, l10007, l27183, l48271, l62089, l69621, l1000003, l1140671, l27644437, l32416187, l1103515245, l2147483587, l2147483629, l2147483647, l1000000000000000000, o_lst0, o_lst1, o_lst2, o_lst3, o_lst4, o_lst5, o_lst6, o_lst7, o_lst8, o_lst9, o_lst10, o_lst11, o_lst12, o_tup2, o_tup3, o_addn, o_neg1, o_ltn, o_len', o_gtn, o_gen, o_eqn, o_nen, o_eql, o_nel, o_eqll, o_nell, o_nenl, o_nenll, o_eqnl, o_eqnll, o_len, o_len0, o_lenD, o_drop, o_take, o_takez, arr10, arr01, arr0, arr210, arr012, arr120, arr201, o_rev, o_listOf, o_listOfT, o_tupOf, List.length_map, it_list, it_tup, it_rev, it_enum, it_zip, o_allb, o_all, o_any, o_anyb, o_sum, o_srt, o_inn, o_notin, o_innl, o_notinl, o_count, o_toInt, turnB, clauseB, clauseF, if_true, if_false, Bool.false_eq_true, Bool.not_true, Bool.not_false, o_ixd (l1 x hx)]
end PL

namespace PL
open PySem OH
/-! ### alike -/
theorem v_same : ∀ {m k : Nat} {d : D}, plD m d = true → m ≤ 60 → valC (callD P (k + m + 1)) 20 [d, d] = some (.bl true)
  | m, k, .non, _, _ => by
    rw [vc (F := f20) rfl rfl]
    simp -implicitDefEqProofs only [f20, startD, List.map_cons, List.map_nil, List.length_cons, List.length_nil, List.replicate, List.cons_append, List.nil_append, Nat.sub_self, Nat.sub_zero, Nat.zero_add, Nat.reduceAdd, Nat.reduceSub, ev_var, ev_vin, ev_mov, ev_ref, ev_int, ev_bl, ev_non, ev_str, ev_gint, ev_op, evs_nil, evs_cons, ev_and, ev_or, ev_not, ev_ite, ev_scal, ev_tall, ev_chn, ev_comp, ev_comp2, evc_nil, evc_one, bind_nm, bind_tp2, bind_tl2, bind_tp3, bind_tp4, evSs_nil, evSs_cons, evS_asg, evS_par2, evS_par3, evS_sub, evS_sub2, evS_augs, evS_ex, evS_ret, evS_retN, evS_iff, evS_pass, evS_for, evS_whl, ev_call, ev_callk, ev_app, ev_pop, ev_popi, noRef, isRef_var, isRef_vin, isRef_mov, isRef_int, isRef_bl, isRef_str, isRef_pop, isRef_not, isRef_scal, isRef_non, isRef_op, isRef_gint, isRef_and, isRef_or, isRef_ite, isRef_call, isRef_callk, isRef_app, isRef_popi, isRef_comp, isRef_comp2, isRef_tall, isRef_chn, isRef_ref, ev_callR, eva_nil, eva_ref, eva_e, fill_nil, fill_ref, fill_e, back_nil, back_ref, back_e, fin1, fin2, fin3, Option.isNone_some, Bool.false_and, aug_lst, augn, ix3_0, sx3_0, ix3_1, sx3_1, ix3_2, sx3_2, ix5_0, sx5_0, ix5_1, sx5_1, ix5_2, sx5_2, ix5_3, sx5_3, ix5_4, sx5_4, Option.isNone_none, Bool.and_self, Bool.true_and, Bool.and_true, setAt_eq, oD0, oDs, st0, sts, wipe0, wipes, Option.map_some, Option.bind_some, cont_nx, cont_rt, cond_t, cond_f, cond_bl, not_bl, tst_bl, scal_int, scal_bl, scal_str, scal_non, valO_rt, valO_nx, wipeO_nx, wipeO_rt, wipeC_some, wipeF_some, isL_lst, l0, l1, l2, l3, l4, l5, l6, l7, l8, l9, l10, l11, l12, l13, l14, l15, l16, l17, l18, l19, l20, l21, l22, l23, l24, l25, l26, l27, l28, l29, l30, l31, l32, l33, l34, l35, l36, l37, l38, l39, l40, l41, l42, l43, l44, l45, l46, l47, l48, l49, l50, l51, l52, l53, l54, l55, l56, l57, l58, l59, l60, l61, l62, l63, l64, l65, l66, l67, l68, l69, l99, l100, l101, l131, l1000, l1001, l7919, l10007, l27183, l48271, l62089, l69621, l1000003, l1140671, l27644437, l32416187, l1103515245, l2147483587, l2147483629, l2147483647, l1000000000000000000, o_lst0, o_lst1, o_lst2, o_lst3, o_lst4, o_lst5, o_lst6, o_lst7, o_lst8, o_lst9, o_lst10, o_lst11, o_lst12, o_tup2, o_tup3, o_addn, o_neg1, o_ltn, o_len', o_gtn, o_gen, o_eqn, o_nen, o_eql, o_nel, o_eqll, o_nell, o_nenl, o_nenll, o_eqnl, o_eqnll, o_len, o_len0, o_lenD, o_drop, o_take, o_takez, arr10, arr01, arr0, arr210, arr012, arr120, arr201, o_rev, o_listOf, o_listOfT, o_tupOf, List.length_map, it_list, it_tup, it_rev, it_enum, it_zip, o_allb, o_all, o_any, o_anyb, o_sum, o_srt, o_inn, o_notin, o_innl, o_notinl, o_count, o_toInt, turnB, clauseB, clauseF, if_true, if_false, Bool.false_eq_true, Bool.not_true, Bool.not_false, isi_i_int, isi_i_bool, isi_i_list, isi_i_tuple, isi_i_str, isi2_i, isn_i, notn_i, isb_i, isi_b_int, isi_b_bool, isi_b_list, isi_b_tuple, isi_b_str, isi2_b, isn_b, notn_b, isb_b, isi_s_int, isi_s_bool, isi_s_list, isi_s_tuple, isi_s_str, isi2_s, isn_s, notn_s, isb_s, isi_n_int, isi_n_bool, isi_n_list, isi_n_tuple, isi_n_str, isi2_n, isn_n, notn_n, isb_n, isi_l_int, isi_l_bool, isi_l_list, isi_l_tuple, isi_l_str, isi2_l, isn_l, notn_l, isb_l, isi_t_int, isi_t_bool, isi_t_list, isi_t_tuple, isi_t_str, isi2_t, isn_t, notn_t, isb_t, isi_d_int, isi_d_bool, isi_d_list, isi_d_tuple, isi_d_str, isi2_d, isn_d, notn_d, isb_d]
  | m, k, .bl b, _, _ => by
    rw [vc (F := f20) rfl rfl]
    cases b <;> simp -implicitDefEqProofs only [f20, startD, List.map_cons, List.map_nil, List.length_cons, List.length_nil, List.replicate, List.cons_append, List.nil_append, Nat.sub_self, Nat.sub_zero, Nat.zero_add, Nat.reduceAdd, Nat.reduceSub, ev_var, ev_vin, ev_mov, ev_ref, ev_int, ev_bl, ev_non, ev_str, ev_gint, ev_op, evs_nil, evs_cons, ev_and, ev_or, ev_not, ev_ite, ev_scal, ev_tall, ev_chn, ev_comp, ev_comp2, evc_nil, evc_one, bind_nm, bind_tp2, bind_tl2, bind_tp3, bind_tp4, evSs_nil, evSs_cons, evS_asg, evS_par2, evS_par3, evS_sub, evS_sub2, evS_augs, evS_ex, evS_ret, evS_retN, evS_iff, evS_pass, evS_for, evS_whl, ev_call, ev_callk, ev_app, ev_pop, ev_popi, noRef, isRef_var, isRef_vin, isRef_mov, isRef_int, isRef_bl, isRef_str, isRef_pop, isRef_not, isRef_scal, isRef_non, isRef_op, isRef_gint, isRef_and, isRef_or, isRef_ite, isRef_call, isRef_callk, isRef_app, isRef_popi, isRef_comp, isRef_comp2, isRef_tall, isRef_chn, isRef_ref, ev_callR, eva_nil, eva_ref, eva_e, fill_nil, fill_ref, fill_e, back_nil, back_ref, back_e, fin1, fin2, fin3, Option.isNone_some, Bool.false_and, aug_lst, augn, ix3_0, sx3_0, ix3_1, sx3_1, ix3_2, sx3_2, ix5_0, sx5_0, ix5_1, sx5_1, ix5_2, sx5_2, ix5_3, sx5_3, ix5_4, sx5_4, Option.isNone_none, Bool.and_self, Bool.true_and, Bool.and_true, setAt_eq, oD0, oDs, st0, sts, wipe0, wipes, Option.map_some, Option.bind_some, cont_nx, cont_rt, cond_t, cond_f, cond_bl, not_bl, tst_bl, scal_int, scal_bl, scal_str, scal_non, valO_rt, valO_nx, wipeO_nx, wipeO_rt, wipeC_some, wipeF_some, isL_lst, l0, l1, l2, l3, l4, l5, l6, l7, l8, l9, l10, l11, l12, l13, l14, l15, l16, l17, l18, l19, l20, l21, l22, l23, l24, l25, l26, l27, l28, l29, l30, l31, l32, l33, l34, l35, l36, l37, l38, l39, l40, l41, l42, l43, l44, l45, l46, l47, l48, l49, l50, l51, l52, l53, l54, l55, l56, l57, l58, l59, l60, l61, l62, l63, l64, l65, l66, l67, l68, l69, l99, l100, l101, l131, l1000, l1001, l7919, l10007, l27183, l48271, l62089, l69621, l1000003, l1140671, l27644437, l32416187, l1103515245, l2147483587, l2147483629, l2147483647, l1000000000000000000, o_lst0, o_lst1, o_lst2, o_lst3, o_lst4, o_lst5, o_lst6, o_lst7, o_lst8, o_lst9, o_lst10, o_lst11, o_lst12, o_tup2, o_tup3, o_addn, o_neg1, o_ltn, o_len', o_gtn, o_gen, o_eqn, o_nen, o_eql, o_nel, o_eqll, o_nell, o_nenl, o_nenll, o_eqnl, o_eqnll, o_len, o_len0, o_lenD, o_drop, o_take, o_takez, arr10, arr01, arr0, arr210, arr012, arr120, arr201, o_rev, o_listOf, o_listOfT, o_tupOf, List.length_map, it_list, it_tup, it_rev, it_enum, it_zip, o_allb, o_all, o_any, o_anyb, o_sum, o_srt, o_inn, o_notin, o_innl, o_notinl, o_count, o_toInt, turnB, clauseB, clauseF, if_true, if_false, Bool.false_eq_true, Bool.not_true, Bool.not_false, isi_i_int, isi_i_bool, isi_i_list, isi_i_tuple, isi_i_str, isi2_i, isn_i, notn_i, isb_i, isi_b_int, isi_b_bool, isi_b_list, isi_b_tuple, isi_b_str, isi2_b, isn_b, notn_b, isb_b, isi_s_int, isi_s_bool, isi_s_list, isi_s_tuple, isi_s_str, isi2_s, isn_s, notn_s, isb_s, isi_n_int, isi_n_bool, isi_n_list, isi_n_tuple, isi_n_str, isi2_n, isn_n, notn_n, isb_n, isi_l_int, isi_l_bool, isi_l_list, isi_l_tuple, isi_l_str, isi2_l, isn_l, notn_l, isb_l, isi_t_int, isi_t_bool, isi_t_list, isi_t_tuple, isi_t_str, isi2_t, isn_t, notn_t, isb_t, isi_d_int, isi_d_bool, isi_d_list, isi_d_tuple, isi_d_str, isi2_d, isn_d, notn_d, isb_d, BEq.rfl, beq_iff_eq, Bool.true_eq_false]
  | m, k, .int i, _, _ => by
    rw [vc (F := f20) rfl rfl]
    simp -implicitDefEqProofs only [f20, startD, List.map_cons, List.map_nil, List.length_cons, List.length_nil, List.replicate, List.cons_append, List.nil_append, Nat.sub_self, Nat.sub_zero, Nat.zero_add, Nat.reduceAdd, Nat.reduceSub, ev_var, ev_vin, ev_mov, ev_ref, ev_int, ev_bl, ev_non, ev_str, ev_gint, ev_op, evs_nil, evs_cons, ev_and, ev_or, ev_not, ev_ite, ev_scal, ev_tall, ev_chn, ev_comp, ev_comp2, evc_nil, evc_one, bind_nm, bind_tp2, bind_tl2, bind_tp3, bind_tp4, evSs_nil, evSs_cons, evS_asg, evS_par2, evS_par3, evS_sub, evS_sub2, evS_augs, evS_ex, evS_ret, evS_retN, evS_iff, evS_pass, evS_for, evS_whl, ev_call, ev_callk, ev_app, ev_pop, ev_popi, noRef, isRef_var, isRef_vin, isRef_mov, isRef_int, isRef_bl, isRef_str, isRef_pop, isRef_not, isRef_scal, isRef_non, isRef_op, isRef_gint, isRef_and, isRef_or, isRef_ite, isRef_call, isRef_callk, isRef_app, isRef_popi, isRef_comp, isRef_comp2, isRef_tall, isRef_chn, isRef_ref, ev_callR, eva_nil, eva_ref, eva_e, fill_nil, fill_ref, fill_e, back_nil, back_ref, back_e, fin1, fin2, fin3, Option.isNone_some, Bool.false_and, aug_lst, augn, ix3_0, sx3_0, ix3_1, sx3_1, ix3_2, sx3_2, ix5_0, sx5_0, ix5_1, sx5_1, ix5_2, sx5_2, ix5_3, sx5_3, ix5_4, sx5_4, Option.isNone_none, Bool.and_self, Bool.true_and, Bool.and_true, setAt_eq, oD0, oDs, st0, sts, wipe0, wipes, Option.map_some, Option.bind_some, cont_nx, cont_rt, cond_t, cond_f, cond_bl, not_bl, tst_bl, scal_int, scal_bl, scal_str, scal_non, valO_rt, valO_nx, wipeO_nx, wipeO_rt, wipeC_some, wipeF_some, isL_lst, l0, l1, l2, l3, l4, l5, l6, l7, l8, l9, l10, l11, l12, l13, l14, l15, l16, l17, l18, l19, l20, l21, l22, l23, l24, l25, l26, l27, l28, l29, l30, l31, l32, l33, l34, l35, l36, l37, l38, l39, l40, l41, l42, l43, l44, l45, l46, l47, l48, l49, l50, l51, l52, l53, l54, l55, l56, l57, l58, l59, l60, l61, l62, l63, l64, l65, l66, l67, l68, l69, l99, l100, l101, l131, l1000, l1001, l7919, l10007, l27183, l48271, l62089, l69621, l1000003, l1140671, l27644437, l32416187, l1103515245, l2147483587, l2147483629, l2147483647, l1000000000000000000, o_lst0, o_lst1, o_lst2, o_lst3, o_lst4, o_lst5, o_lst6, o_lst7, o_lst8, o_lst9, o_lst10, o_lst11, o_lst12, o_tup2, o_tup3, o_addn, o_neg1, o_ltn, o_len', o_gtn, o_gen, o_eqn, o_nen, o_eql, o_nel, o_eqll, o_nell, o_nenl, o_nenll, o_eqnl, o_eqnll, o_len, o_len0, o_lenD, o_drop, o_take, o_takez, arr10, arr01, arr0, arr210, arr012, arr120, arr201, o_rev, o_listOf, o_listOfT, o_tupOf, List.length_map, it_list, it_tup, it_rev, it_enum, it_zip, o_allb, o_all, o_any, o_anyb, o_sum, o_srt, o_inn, o_notin, o_innl, o_notinl, o_count, o_toInt, turnB, clauseB, clauseF, if_true, if_false, Bool.false_eq_true, Bool.not_true, Bool.not_false, isi_i_int, isi_i_bool, isi_i_list, isi_i_tuple, isi_i_str, isi2_i, isn_i, notn_i, isb_i, isi_b_int, isi_b_bool, isi_b_list, isi_b_tuple, isi_b_str, isi2_b, isn_b, notn_b, isb_b, isi_s_int, isi_s_bool, isi_s_list, isi_s_tuple, isi_s_str, isi2_s, isn_s, notn_s, isb_s, isi_n_int, isi_n_bool, isi_n_list, isi_n_tuple, isi_n_str, isi2_n, isn_n, notn_n, isb_n, isi_l_int, isi_l_bool, isi_l_list, isi_l_tuple, isi_l_str, isi2_l, isn_l, notn_l, isb_l, isi_t_int, isi_t_bool, isi_t_list, isi_t_tuple, isi_t_str, isi2_t, isn_t, notn_t, isb_t, isi_d_int, isi_d_bool, isi_d_list, isi_d_tuple, isi_d_str, isi2_d, isn_d, notn_d, isb_d, o_eqi, decide_true]
  | m + 1, k, .lst xs, h, hm => by
    have hl : xs.length < LIM := by simp only [plD, Bool.and_eq_true, decide_eq_true_eq] at h; exact h.1
    have ha : ∀ x ∈ xs, plD m x = true := by simp only [plD, Bool.and_eq_true, List.all_eq_true] at h; exact h.2
    rw [show k + (m + 1) + 1 = (k + m + 1) + 1 by omega, vc (F := f20) rfl rfl]
    have e := compD_all (b := clauseB (callD P (k + m + 1)) (.tp [3, 4]) [] (.call 20 [.mov 3, .mov 4])) (own := [3, 4]) (ρ1 := [some (.lst xs), some (.lst xs), some (.bl true), none, none]) (xs := xs) (toD := fun x => D.tup [x, x]) (acc := []) (ρ := [some (.lst xs), some (.lst xs), some (.bl true), none, none]) (fun _ => D.bl true) rfl (fun x hx => by
      simp -implicitDefEqProofs only [ev_var, ev_vin, ev_mov, ev_ref, ev_int, ev_bl, ev_non, ev_str, ev_gint, ev_op, evs_nil, evs_cons, ev_and, ev_or, ev_not, ev_ite, ev_scal, ev_tall, ev_chn, ev_comp, ev_comp2, evc_nil, evc_one, bind_nm, bind_tp2, bind_tl2, bind_tp3, bind_tp4, evSs_nil, evSs_cons, evS_asg, evS_par2, evS_par3, evS_sub, evS_sub2, evS_augs, evS_ex, evS_ret, evS_retN, evS_iff, evS_pass, evS_for, evS_whl, ev_call, ev_callk, ev_app, ev_pop, ev_popi, noRef, isRef_var, isRef_vin, isRef_mov, isRef_int, isRef_bl, isRef_str, isRef_pop, isRef_not, isRef_scal, isRef_non, isRef_op, isRef_gint, isRef_and, isRef_or, isRef_ite, isRef_call, isRef_callk, isRef_app, isRef_popi, isRef_comp, isRef_comp2, isRef_tall, isRef_chn, isRef_ref, ev_callR, eva_nil, eva_ref, eva_e, fill_nil, fill_ref, fill_e, back_nil, back_ref, back_e, fin1, fin2, fin3, Option.isNone_some, Bool.false_and, aug_lst, augn, ix3_0, sx3_0, ix3_1, sx3_1, ix3_2, sx3_2, ix5_0, sx5_0, ix5_1, sx5_1, ix5_2, sx5_2, ix5_3, sx5_3, ix5_4, sx5_4, Option.isNone_none, Bool.and_self, Bool.true_and, Bool.and_true, setAt_eq, oD0, oDs, st0, sts, wipe0, wipes, Option.map_some, Option.bind_some, cont_nx, cont_rt, cond_t, cond_f, cond_bl, not_bl, tst_bl, scal_int, scal_bl, scal_str, scal_non, valO_rt, valO_nx, wipeO_nx, wipeO_rt, wipeC_some, wipeF_some, isL_lst, l0, l1, l2, l3, l4, l5, l6, l7, l8, l9, l10, l11, l12, l13, l14, l15, l16, l17, l18, l19, l20, l21, l22, l23, l24, l25, l26, l27, l28, l29, l30, l31, l32, l33, l34, l35, l36, l37, l38, l39, l40, l41, l42, l43, l44, l45, l46, l47, l48, l49, l50, l51, l52, l53, l54, l55, l56, l57, l58, l59, l60, l61, l62, l63, l64, l65, l66, l67, l68, l69, l99, l100, l101, l131, l1000, l1001, l7919, l10007, l27183, l48271, l62089, l69621, l1000003, l1140671, l27644437, l32416187, l1103515245, l2147483587, l2147483629, l2147483647, l1000000000000000000, o_lst0, o_lst1, o_lst2, o_lst3, o_lst4, o_lst5, o_lst6, o_lst7, o_lst8, o_lst9, o_lst10, o_lst11, o_lst12, o_tup2, o_tup3, o_addn, o_neg1, o_ltn, o_len', o_gtn, o_gen, o_eqn, o_nen, o_eql, o_nel, o_eqll, o_nell, o_nenl, o_nenll, o_eqnl, o_eqnll, o_len, o_len0, o_lenD, o_drop, o_take, o_takez, arr10, arr01, arr0, arr210, arr012, arr120, arr201, o_rev, o_listOf, o_listOfT, o_tupOf, List.length_map, it_list, it_tup, it_rev, it_enum, it_zip, o_allb, o_all, o_any, o_anyb, o_sum, o_srt, o_inn, o_notin, o_innl, o_notinl, o_count, o_toInt, turnB, clauseB, clauseF, if_true, if_false, Bool.false_eq_true, Bool.not_true, Bool.not_false, v_same (k := k) (ha x hx) (by omega)]) (by rw [List.length_nil]; omega)
    simp -implicitDefEqProofs only [f20, startD, List.map_cons, List.map_nil, List.length_cons, List.length_nil, List.replicate, List.cons_append, List.nil_append, Nat.sub_self, Nat.sub_zero, Nat.zero_add, Nat.reduceAdd, Nat.reduceSub, ev_var, ev_vin, ev_mov, ev_ref, ev_int, ev_bl, ev_non, ev_str, ev_gint, ev_op, evs_nil, evs_cons, ev_and, ev_or, ev_not, ev_ite, ev_scal, ev_tall, ev_chn, ev_comp, ev_comp2, evc_nil, evc_one, bind_nm, bind_tp2, bind_tl2, bind_tp3, bind_tp4, evSs_nil, evSs_cons, evS_asg, evS_par2, evS_par3, evS_sub, evS_sub2, evS_augs, evS_ex, evS_ret, evS_retN, evS_iff, evS_pass, evS_for, evS_whl, ev_call, ev_callk, ev_app, ev_pop, ev_popi, noRef, isRef_var, isRef_vin, isRef_mov, isRef_int, isRef_bl, isRef_str, isRef_pop, isRef_not, isRef_scal, isRef_non, isRef_op, isRef_gint, isRef_and, isRef_or, isRef_ite, isRef_call, isRef_callk, isRef_app, isRef_popi, isRef_comp, isRef_comp2, isRef_tall, isRef_chn, isRef_ref, ev_callR, eva_nil, eva_ref, eva_e, fill_nil, fill_ref, fill_e, back_nil, back_ref, back_e, fin1, fin2, fin3, Option.isNone_some, Bool.false_and, aug_lst, augn, ix3_0, sx3_0, ix3_1, sx3_1, ix3_2, sx3_2, ix5_0, sx5_0, ix5_1, sx5_1, ix5_2, sx5_2, ix5_3, sx5_3, ix5_4, sx5_4, Option.isNone_none, Bool.and_self, Bool.true_and, Bool.and_true, setAt_eq, oD0, oDs, st0, sts, wipe0, wipes, Option.map_some, Option.bind_some, cont_nx, cont_rt, cond_t, cond_f, cond_bl, not_bl, tst_bl, scal_int, scal_bl, scal_str, scal_non, valO_rt, valO_nx, wipeO_nx, wipeO_rt, wipeC_some, wipeF_some, isL_lst, l0, l1, l2, l3, l4, l5, l6, l7, l8, l9, l10, l11, l12, l13, l14, l15, l16, l17, l18, l19, l20, l21, l22, l23, l24, l25, l26, l27, l28, l29, l30, l31, l32, l33, l34, l35, l36, l37, l38, l39, l40, l41, l42, l43, l44, l45, l46, l47, l48, l49, l50, l51, l52, l53, l54, l55, l56, l57, l58, l59, l60, l61, l62, l63, l64, l65, l66, l67, l68, l69, l99, l100, l101, l131, l1000, l1001, l7919, l10007, l27183, l48271, l62089, l69621, l1000003, l1140671, l27644437, l32416187, l1103515245, l2147483587, l2147483629, l2147483647, l1000000000000000000, o_lst0, o_lst1, o_lst2, o_lst3, o_lst4, o_lst5, o_lst6, o_lst7, o_lst8, o_lst9, o_lst10, o_lst11, o_lst12, o_tup2, o_tup3, o_addn, o_neg1, o_ltn, o_len', o_gtn, o_gen, o_eqn, o_nen, o_eql, o_nel, o_eqll, o_nell, o_nenl, o_nenll, o_eqnl, o_eqnll, o_len, o_len0, o_lenD, o_drop, o_take, o_takez, arr10, arr01, arr0, arr210, arr012, arr120, arr201, o_rev, o_listOf, o_listOfT, o_tupOf, List.length_map, it_list, it_tup, it_rev, it_enum, it_zip, o_allb, o_all, o_any, o_anyb, o_sum, o_srt, o_inn, o_notin, o_innl, o_notinl, o_count, o_toInt, turnB, clauseB, clauseF, if_true, if_false, Bool.false_eq_true, Bool.not_true, Bool.not_false, isi_i_int, isi_i_bool, isi_i_list, isi_i_tuple, isi_i_str, isi2_i, isn_i, notn_i, isb_i, isi_b_int, isi_b_bool, isi_b_list, isi_b_tuple, isi_b_str, isi2_b, isn_b, notn_b, isb_b, isi_s_int, isi_s_bool, isi_s_list, isi_s_tuple, isi_s_str, isi2_s, isn_s, notn_s, isb_s, isi_n_int, isi_n_bool, isi_n_list, isi_n_tuple, isi_n_str, isi2_n, isn_n, notn_n, isb_n, isi_l_int, isi_l_bool, isi_l_list, isi_l_tuple, isi_l_str, isi2_l, isn_l, notn_l, isb_l, isi_t_int, isi_t_bool, isi_t_list, isi_t_tuple, isi_t_str, isi2_t, isn_t, notn_t, isb_t, isi_d_int, isi_d_bool, isi_d_list, isi_d_tuple, isi_d_str, isi2_d, isn_d, notn_d, isb_d, it_zips, e, decide_true, all_tt]
  | m + 1, k, .tup xs, h, hm => by
    have hl : xs.length < LIM := by simp only [plD, Bool.and_eq_true, decide_eq_true_eq] at h; exact h.1
    have ha : ∀ x ∈ xs, plD m x = true := by simp only [plD, Bool.and_eq_true, List.all_eq_true] at h; exact h.2
    rw [show k + (m + 1) + 1 = (k + m + 1) + 1 by omega, vc (F := f20) rfl rfl]
    have e := compD_all (b := clauseB (callD P (k + m + 1)) (.tp [3, 4]) [] (.call 20 [.mov 3, .mov 4])) (own := [3, 4]) (ρ1 := [some (.tup xs), some (.tup xs), some (.bl true), none, none]) (xs := xs) (toD := fun x => D.tup [x, x]) (acc := []) (ρ := [some (.tup xs), some (.tup xs), some (.bl true), none, none]) (fun _ => D.bl true) rfl (fun x hx => by
      simp -implicitDefEqProofs only [ev_var, ev_vin, ev_mov, ev_ref, ev_int, ev_bl, ev_non, ev_str, ev_gint, ev_op, evs_nil, evs_cons, ev_and, ev_or, ev_not, ev_ite, ev_scal, ev_tall, ev_chn, ev_comp, ev_comp2, evc_nil, evc_one, bind_nm, bind_tp2, bind_tl2, bind_tp3, bind_tp4, evSs_nil, evSs_cons, evS_asg, evS_par2, evS_par3, evS_sub, evS_sub2, evS_augs, evS_ex, evS_ret, evS_retN, evS_iff, evS_pass, evS_for, evS_whl, ev_call, ev_callk, ev_app, ev_pop, ev_popi, noRef, isRef_var, isRef_vin, isRef_mov, isRef_int, isRef_bl, isRef_str, isRef_pop, isRef_not, isRef_scal, isRef_non, isRef_op, isRef_gint, isRef_and, isRef_or, isRef_ite, isRef_call, isRef_callk, isRef_app, isRef_popi, isRef_comp, isRef_comp2, isRef_tall, isRef_chn, isRef_ref, ev_callR, eva_nil, eva_ref, eva_e, fill_nil, fill_ref, fill_e, back_nil, back_ref, back_e, fin1, fin2, fin3, Option.isNone_some, Bool.false_and, aug_lst, augn, ix3_0, sx3_0, ix3_1, sx3_1, ix3_2, sx3_2, ix5_0, sx5_0, ix5_1, sx5_1, ix5_2, sx5_2, ix5_3, sx5_3, ix5_4, sx5_4, Option.isNone_none, Bool.and_self, Bool.true_and, Bool.and_true, setAt_eq, oD0, oDs, st0, sts, wipe0, wipes, Option.map_some, Option.bind_some, cont_nx, cont_rt, cond_t, cond_f, cond_bl, not_bl, tst_bl, scal_int, scal_bl, scal_str, scal_non, valO_rt, valO_nx, wipeO_nx, wipeO_rt, wipeC_some, wipeF_some, isL_lst, l0, l1, l2, l3, l4, l5, l6, l7, l8, l9, l10, l11, l12, l13, l14, l15, l16, l17, l18, l19, l20, l21, l22, l23, l24, l25, l26, l27, l28, l29, l30, l31, l32, l33, l34, l35, l36, l37, l38, l39, l40, l41, l42, l43, l44, l45, l46, l47, l48, l49, l50, l51, l52, l53, l54, l55, l56, l57, l58, l59, l60, l61, l62, l63, l64, l65, l66, l67, l68, l69, l99, l100, l101, l131, l1000, l1001, l7919, l10007, l27183, l48271, l62089, l69621, l1000003, l1140671, l27644437, l32416187, l1103515245, l2147483587, l2147483629, l2147483647, l1000000000000000000, o_lst0, o_lst1, o_lst2, o_lst3, o_lst4, o_lst5, o_lst6, o_lst7, o_lst8, o_lst9, o_lst10, o_lst11, o_lst12, o_tup2, o_tup3, o_addn, o_neg1, o_ltn, o_len', o_gtn, o_gen, o_eqn, o_nen, o_eql, o_nel, o_eqll, o_nell, o_nenl, o_nenll, o_eqnl, o_eqnll, o_len, o_len0, o_lenD, o_drop, o_take, o_takez, arr10, arr01, arr0, arr210, arr012, arr120, arr201, o_rev, o_listOf, o_listOfT, o_tupOf, List.length_map, it_list, it_tup, it_rev, it_enum, it_zip, o_allb, o_all, o_any, o_anyb, o_sum, o_srt, o_inn, o_notin, o_innl, o_notinl, o_count, o_toInt, turnB, clauseB, clauseF, if_true, if_false, Bool.false_eq_true, Bool.not_true, Bool.not_false, v_same (k := k) (ha x hx) (by omega)]) (by rw [List.length_nil]; omega)
    simp -implicitDefEqProofs only [f20, startD, List.map_cons, List.map_nil, List.length_cons, List.length_nil, List.replicate, List.cons_append, List.nil_append, Nat.sub_self, Nat.sub_zero, Nat.zero_add, Nat.reduceAdd, Nat.reduceSub, ev_var, ev_vin, ev_mov, ev_ref, ev_int, ev_bl, ev_non, ev_str, ev_gint, ev_op, evs_nil, evs_cons, ev_and, ev_or, ev_not, ev_ite, ev_scal, ev_tall, ev_chn, ev_comp, ev_comp2, evc_nil, evc_one, bind_nm, bind_tp2, bind_tl2, bind_tp3, bind_tp4, evSs_nil, evSs_cons, evS_asg, evS_par2, evS_par3, evS_sub, evS_sub2, evS_augs, evS_ex, evS_ret, evS_retN, evS_iff, evS_pass, evS_for, evS_whl, ev_call, ev_callk, ev_app, ev_pop, ev_popi, noRef, isRef_var, isRef_vin, isRef_mov, isRef_int, isRef_bl, isRef_str, isRef_pop, isRef_not, isRef_scal, isRef_non, isRef_op, isRef_gint, isRef_and, isRef_or, isRef_ite, isRef_call, isRef_callk, isRef_app, isRef_popi, isRef_comp, isRef_comp2, isRef_tall, isRef_chn, isRef_ref, ev_callR, eva_nil, eva_ref, eva_e, fill_nil, fill_ref, fill_e, back_nil, back_ref, back_e, fin1, fin2, fin3, Option.isNone_some, Bool.false_and, aug_lst, augn, ix3_0, sx3_0, ix3_1, sx3_1, ix3_2, sx3_2, ix5_0, sx5_0, ix5_1, sx5_1, ix5_2, sx5_2, ix5_3, sx5_3, ix5_4, sx5_4, Option.isNone_none, Bool.and_self, Bool.true_and, Bool.and_true, setAt_eq, oD0, oDs, st0, sts, wipe0, wipes, Option.map_some, Option.bind_some, cont_nx, cont_rt, cond_t, cond_f, cond_bl, not_bl, tst_bl, scal_int, scal_bl, scal_str, scal_non, valO_rt, valO_nx, wipeO_nx, wipeO_rt, wipeC_some, wipeF_some, isL_lst, l0, l1, l2, l3, l4, l5, l6, l7, l8, l9, l10, l11, l12, l13, l14, l15, l16, l17, l18, l19, l20, l21, l22, l23, l24, l25, l26, l27, l28, l29, l30, l31, l32, l33, l34, l35, l36, l37, l38, l39, l40, l41, l42, l43, l44, l45, l46, l47, l48, l49, l50, l51, l52, l53, l54, l55, l56, l57, l58, l59, l60, l61, l62, l63, l64, l65, l66, l67, l68, l69, l99, l100, l101, l131, l1000, l1001, l7919, l10007, l27183, l48271, l62089, l69621, l1000003, l1140671, l27644437, l32416187, l1103515245, l2147483587, l2147483629, l2147483647, l1000000000000000000, o_lst0, o_lst1, o_lst2, o_lst3, o_lst4, o_lst5, o_lst6, o_lst7, o_lst8, o_lst9, o_lst10, o_lst11, o_lst12, o_tup2, o_tup3, o_addn, o_neg1, o_ltn, o_len', o_gtn, o_gen, o_eqn, o_nen, o_eql, o_nel, o_eqll, o_nell, o_nenl, o_nenll, o_eqnl, o_eqnll, o_len, o_len0, o_lenD, o_drop, o_take, o_takez, arr10, arr01, arr0, arr210, arr012, arr120, arr201, o_rev, o_listOf, o_listOfT, o_tupOf, List.length_map, it_list, it_tup, it_rev, it_enum, it_zip, o_allb, o_all, o_any, o_anyb, o_sum, o_srt, o_inn, o_notin, o_innl, o_notinl, o_count, o_toInt, turnB, clauseB, clauseF, if_true, if_false, Bool.false_eq_true, Bool.not_true, Bool.not_false, isi_i_int, isi_i_bool, isi_i_list, isi_i_tuple, isi_i_str, isi2_i, isn_i, notn_i, isb_i, isi_b_int, isi_b_bool, isi_b_list, isi_b_tuple, isi_b_str, isi2_b, isn_b, notn_b, isb_b, isi_s_int, isi_s_bool, isi_s_list, isi_s_tuple, isi_s_str, isi2_s, isn_s, notn_s, isb_s, isi_n_int, isi_n_bool, isi_n_list, isi_n_tuple, isi_n_str, isi2_n, isn_n, notn_n, isb_n, isi_l_int, isi_l_bool, isi_l_list, isi_l_tuple, isi_l_str, isi2_l, isn_l, notn_l, isb_l, isi_t_int, isi_t_bool, isi_t_list, isi_t_tuple, isi_t_str, isi2_t, isn_t, notn_t, isb_t, isi_d_int, isi_d_bool, isi_d_list, isi_d_tuple, isi_d_str, isi2_d, isn_d, notn_d, isb_d, it_zipt, o_lent, e, decide_true, all_tt]
  | 0, k, .lst _, h, _ | 0, k, .tup _, h, _ | m, k, .str _, h, _ | m, k, .dct, h, _ | m, k, .fzl _, h, _ | m, k, .rawl _, h, _ | m, k, .oth, h, _ => by simp [plD] at h
/-! ### spoilt -/
theorem v_spoilt : ∀ {m k : Nat} {d : D}, plD m d = true → m ≤ 60 → valC (callD P (k + m + 1)) 19 [d] = some (.bl true)
  | m, k, .non, _, _ => by
    rw [vc (F := f19) rfl rfl]
    simp -implicitDefEqProofs only [f19, startD, List.map_cons, List.map_nil, List.length_cons, List.length_nil, List.replicate, List.cons_append, List.nil_append, Nat.sub_self, Nat.sub_zero, Nat.zero_add, Nat.reduceAdd, Nat.reduceSub, ev_var, ev_vin, ev_mov, ev_ref, ev_int, ev_bl, ev_non, ev_str, ev_gint, ev_op, evs_nil, evs_cons, ev_and, ev_or, ev_not, ev_ite, ev_scal, ev_tall, ev_chn, ev_comp, ev_comp2, evc_nil, evc_one, bind_nm, bind_tp2, bind_tl2, bind_tp3, bind_tp4, evSs_nil, evSs_cons, evS_asg, evS_par2, evS_par3, evS_sub, evS_sub2, evS_augs, evS_ex, evS_ret, evS_retN, evS_iff, evS_pass, evS_for, evS_whl, ev_call, ev_callk, ev_app, ev_pop, ev_popi, noRef, isRef_var, isRef_vin, isRef_mov, isRef_int, isRef_bl, isRef_str, isRef_pop, isRef_not, isRef_scal, isRef_non, isRef_op, isRef_gint, isRef_and, isRef_or, isRef_ite, isRef_call, isRef_callk, isRef_app, isRef_popi, isRef_comp, isRef_comp2, isRef_tall, isRef_chn, isRef_ref, ev_callR, eva_nil, eva_ref, eva_e, fill_nil, fill_ref, fill_e, back_nil, back_ref, back_e, fin1, fin2, fin3, Option.isNone_some, Bool.false_and, aug_lst, augn, ix3_0, sx3_0, ix3_1, sx3_1, ix3_2, sx3_2, ix5_0, sx5_0, ix5_1, sx5_1, ix5_2, sx5_2, ix5_3, sx5_3, ix5_4, sx5_4, Option.isNone_none, Bool.and_self, Bool.true_and, Bool.and_true, setAt_eq, oD0, oDs, st0, sts, wipe0, wipes, Option.map_some, Option.bind_some, cont_nx, cont_rt, cond_t, cond_f, cond_bl, not_bl, tst_bl, scal_int, scal_bl, scal_str, scal_non, valO_rt, valO_nx, wipeO_nx, wipeO_rt, wipeC_some, wipeF_some, isL_lst, l0, l1, l2, l3, l4, l5, l6, l7, l8, l9, l10, l11, l12, l13, l14, l15, l16, l17, l18, l19, l20, l21, l22, l23, l24, l25, l26, l27, l28, l29, l30, l31, l32, l33, l34, l35, l36, l37, l38, l39, l40, l41, l42, l43, l44, l45, l46, l47, l48, l49, l50, l51, l52, l53, l54, l55, l56, l57, l58, l59, l60, l61, l62, l63, l64, l65, l66, l67, l68, l69, l99, l100, l101, l131, l1000, l1001, l7919, l10007, l27183, l48271, l62089, l69621, l1000003, l1140671, l27644437, l32416187, l1103515245, l2147483587, l2147483629, l2147483647, l1000000000000000000, o_lst0, o_lst1, o_lst2, o_lst3, o_lst4, o_lst5, o_lst6, o_lst7, o_lst8, o_lst9, o_lst10, o_lst11, o_lst12, o_tup2, o_tup3, o_addn, o_neg1, o_ltn, o_len', o_gtn, o_gen, o_eqn, o_nen, o_eql, o_nel, o_eqll, o_nell, o_nenl, o_nenll, o_eqnl, o_eqnll, o_len, o_len0, o_lenD, o_drop, o_take, o_takez, arr10, arr01, arr0, arr210, arr012, arr120, arr201, o_rev, o_listOf, o_listOfT, o_tupOf, List.length_map, it_list, it_tup, it_rev, it_enum, it_zip, o_allb, o_all, o_any, o_anyb, o_sum, o_srt, o_inn, o_notin, o_innl, o_notinl, o_count, o_toInt, turnB, clauseB, clauseF, if_true, if_false, Bool.false_eq_true, Bool.not_true, Bool.not_false, isi_i_int, isi_i_bool, isi_i_list, isi_i_tuple, isi_i_str, isi2_i, isn_i, notn_i, isb_i, isi_b_int, isi_b_bool, isi_b_list, isi_b_tuple, isi_b_str, isi2_b, isn_b, notn_b, isb_b, isi_s_int, isi_s_bool, isi_s_list, isi_s_tuple, isi_s_str, isi2_s, isn_s, notn_s, isb_s, isi_n_int, isi_n_bool, isi_n_list, isi_n_tuple, isi_n_str, isi2_n, isn_n, notn_n, isb_n, isi_l_int, isi_l_bool, isi_l_list, isi_l_tuple, isi_l_str, isi2_l, isn_l, notn_l, isb_l, isi_t_int, isi_t_bool, isi_t_list, isi_t_tuple, isi_t_str, isi2_t, isn_t, notn_t, isb_t, isi_d_int, isi_d_bool, isi_d_list, isi_d_tuple, isi_d_str, isi2_d, isn_d, notn_d, isb_d]
  | m, k, .bl b, _, _ => by
    rw [vc (F := f19) rfl rfl]
    simp -implicitDefEqProofs only [f19, startD, List.map_cons, List.map_nil, List.length_cons, List.length_nil, List.replicate, List.cons_append, List.nil_append, Nat.sub_self, Nat.sub_zero, Nat.zero_add, Nat.reduceAdd, Nat.reduceSub, ev_var, ev_vin, ev_mov, ev_ref, ev_int, ev_bl, ev_non, ev_str, ev_gint, ev_op, evs_nil, evs_cons, ev_and, ev_or, ev_not, ev_ite, ev_scal, ev_tall, ev_chn, ev_comp, ev_comp2, evc_nil, evc_one, bind_nm, bind_tp2, bind_tl2, bind_tp3, bind_tp4, evSs_nil, evSs_cons, evS_asg, evS_par2, evS_par3, evS_sub, evS_sub2, evS_augs, evS_ex, evS_ret, evS_retN, evS_iff, evS_pass, evS_for, evS_whl, ev_call, ev_callk, ev_app, ev_pop, ev_popi, noRef, isRef_var, isRef_vin, isRef_mov, isRef_int, isRef_bl, isRef_str, isRef_pop, isRef_not, isRef_scal, isRef_non, isRef_op, isRef_gint, isRef_and, isRef_or, isRef_ite, isRef_call, isRef_callk, isRef_app, isRef_popi, isRef_comp, isRef_comp2, isRef_tall, isRef_chn, isRef_ref, ev_callR, eva_nil, eva_ref, eva_e, fill_nil, fill_ref, fill_e, back_nil, back_ref, back_e, fin1, fin2, fin3, Option.isNone_some, Bool.false_and, aug_lst, augn, ix3_0, sx3_0, ix3_1, sx3_1, ix3_2, sx3_2, ix5_0, sx5_0, ix5_1, sx5_1, ix5_2, sx5_2, ix5_3, sx5_3, ix5_4, sx5_4, Option.isNone_none, Bool.and_self, Bool.true_and, Bool.and_true, setAt_eq, oD0, oDs, st0, sts, wipe0, wipes, Option.map_some, Option.bind_some, cont_nx, cont_rt, cond_t, cond_f, cond_bl, not_bl, tst_bl, scal_int, scal_bl, scal_str, scal_non, valO_rt, valO_nx, wipeO_nx, wipeO_rt, wipeC_some, wipeF_some, isL_lst, l0, l1, l2, l3, l4, l5, l6, l7, l8, l9, l10, l11, l12, l13, l14, l15, l16, l17, l18, l19, l20, l21, l22, l23, l24, l25, l26, l27, l28, l29, l30, l31, l32, l33, l34, l35, l36, l37, l38, l39, l40, l41, l42, l43, l44, l45, l46, l47, l48, l49, l50, l51, l52, l53, l54, l55, l56, l57, l58, l59, l60, l61, l62, l63, l64, l65, l66, l67, l68, l69, l99, l100, l101, l131, l1000, l1001, l7919, l10007, l27183, l48271, l62089, l69621, l1000003, l1140671, l27644437, l32416187, l1103515245, l2147483587, l2147483629, l2147483647, l1000000000000000000, o_lst0, o_lst1, o_lst2, o_lst3, o_lst4, o_lst5, o_lst6, o_lst7, o_lst8, o_lst9, o_lst10, o_lst11, o_lst12, o_tup2, o_tup3, o_addn, o_neg1, o_ltn, o_len', o_gtn, o_gen, o_eqn, o_nen, o_eql, o_nel, o_eqll, o_nell, o_nenl, o_nenll, o_eqnl, o_eqnll, o_len, o_len0, o_lenD, o_drop, o_take, o_takez, arr10, arr01, arr0, arr210, arr012, arr120, arr201, o_rev, o_listOf, o_listOfT, o_tupOf, List.length_map, it_list, it_tup, it_rev, it_enum, it_zip, o_allb, o_all, o_any, o_anyb, o_sum, o_srt, o_inn, o_notin, o_innl, o_notinl, o_count, o_toInt, turnB, clauseB, clauseF, if_true, if_false, Bool.false_eq_true, Bool.not_true, Bool.not_false, isi_i_int, isi_i_bool, isi_i_list, isi_i_tuple, isi_i_str, isi2_i, isn_i, notn_i, isb_i, isi_b_int, isi_b_bool, isi_b_list, isi_b_tuple, isi_b_str, isi2_b, isn_b, notn_b, isb_b, isi_s_int, isi_s_bool, isi_s_list, isi_s_tuple, isi_s_str, isi2_s, isn_s, notn_s, isb_s, isi_n_int, isi_n_bool, isi_n_list, isi_n_tuple, isi_n_str, isi2_n, isn_n, notn_n, isb_n, isi_l_int, isi_l_bool, isi_l_list, isi_l_tuple, isi_l_str, isi2_l, isn_l, notn_l, isb_l, isi_t_int, isi_t_bool, isi_t_list, isi_t_tuple, isi_t_str, isi2_t, isn_t, notn_t, isb_t, isi_d_int, isi_d_bool, isi_d_list, isi_d_tuple, isi_d_str, isi2_d, isn_d, notn_d, isb_d]
  | m, k, .int i, _, _ => by
    rw [vc (F := f19) rfl rfl]
    simp -implicitDefEqProofs only [f19, startD, List.map_cons, List.map_nil, List.length_cons, List.length_nil, List.replicate, List.cons_append, List.nil_append, Nat.sub_self, Nat.sub_zero, Nat.zero_add, Nat.reduceAdd, Nat.reduceSub, ev_var, ev_vin, ev_mov, ev_ref, ev_int, ev_bl, ev_non, ev_str, ev_gint, ev_op, evs_nil, evs_cons, ev_and, ev_or, ev_not, ev_ite, ev_scal, ev_tall, ev_chn, ev_comp, ev_comp2, evc_nil, evc_one, bind_nm, bind_tp2, bind_tl2, bind_tp3, bind_tp4, evSs_nil, evSs_cons, evS_asg, evS_par2, evS_par3, evS_sub, evS_sub2, evS_augs, evS_ex, evS_ret, evS_retN, evS_iff, evS_pass, evS_for, evS_whl, ev_call, ev_callk, ev_app, ev_pop, ev_popi, noRef, isRef_var, isRef_vin, isRef_mov, isRef_int, isRef_bl, isRef_str, isRef_pop, isRef_not, isRef_scal, isRef_non, isRef_op, isRef_gint, isRef_and, isRef_or, isRef_ite, isRef_call, isRef_callk, isRef_app, isRef_popi, isRef_comp, isRef_comp2, isRef_tall, isRef_chn, isRef_ref, ev_callR, eva_nil, eva_ref, eva_e, fill_nil, fill_ref, fill_e, back_nil, back_ref, back_e, fin1, fin2, fin3, Option.isNone_some, Bool.false_and, aug_lst, augn, ix3_0, sx3_0, ix3_1, sx3_1, ix3_2, sx3_2, ix5_0, sx5_0, ix5_1, sx5_1, ix5_2, sx5_2, ix5_3, sx5_3, ix5_4, sx5_4, Option.isNone_none, Bool.and_self, Bool.true_and, Bool.and_true, setAt_eq, oD0, oDs, st0, sts, wipe0, wipes, Option.map_some, Option.bind_some, cont_nx, cont_rt, cond_t, cond_f, cond_bl, not_bl, tst_bl, scal_int, scal_bl, scal_str, scal_non, valO_rt, valO_nx, wipeO_nx, wipeO_rt, wipeC_some, wipeF_some, isL_lst, l0, l1, l2, l3, l4, l5, l6, l7, l8, l9, l10, l11, l12, l13, l14, l15, l16, l17, l18, l19, l20, l21, l22, l23, l24, l25, l26, l27, l28, l29, l30, l31, l32, l33, l34, l35, l36, l37, l38, l39, l40, l41, l42, l43, l44, l45, l46, l47, l48, l49, l50, l51, l52, l53, l54, l55, l56, l57, l58, l59, l60, l61, l62, l63, l64, l65, l66, l67, l68, l69, l99, l100, l101, l131, l1000, l1001, l7919, l10007, l27183, l48271, l62089, l69621, l1000003, l1140671, l27644437, l32416187, l1103515245, l2147483587, l2147483629, l2147483647, l1000000000000000000, o_lst0, o_lst1, o_lst2, o_lst3, o_lst4, o_lst5, o_lst6, o_lst7, o_lst8, o_lst9, o_lst10, o_lst11, o_lst12, o_tup2, o_tup3, o_addn, o_neg1, o_ltn, o_len', o_gtn, o_gen, o_eqn, o_nen, o_eql, o_nel, o_eqll, o_nell, o_nenl, o_nenll, o_eqnl, o_eqnll, o_len, o_len0, o_lenD, o_drop, o_take, o_takez, arr10, arr01, arr0, arr210, arr012, arr120, arr201, o_rev, o_listOf, o_listOfT, o_tupOf, List.length_map, it_list, it_tup, it_rev, it_enum, it_zip, o_allb, o_all, o_any, o_anyb, o_sum, o_srt, o_inn, o_notin, o_innl, o_notinl, o_count, o_toInt, turnB, clauseB, clauseF, if_true, if_false, Bool.false_eq_true, Bool.not_true, Bool.not_false, isi_i_int, isi_i_bool, isi_i_list, isi_i_tuple, isi_i_str, isi2_i, isn_i, notn_i, isb_i, isi_b_int, isi_b_bool, isi_b_list, isi_b_tuple, isi_b_str, isi2_b, isn_b, notn_b, isb_b, isi_s_int, isi_s_bool, isi_s_list, isi_s_tuple, isi_s_str, isi2_s, isn_s, notn_s, isb_s, isi_n_int, isi_n_bool, isi_n_list, isi_n_tuple, isi_n_str, isi2_n, isn_n, notn_n, isb_n, isi_l_int, isi_l_bool, isi_l_list, isi_l_tuple, isi_l_str, isi2_l, isn_l, notn_l, isb_l, isi_t_int, isi_t_bool, isi_t_list, isi_t_tuple, isi_t_str, isi2_t, isn_t, notn_t, isb_t, isi_d_int, isi_d_bool, isi_d_list, isi_d_tuple, isi_d_str, isi2_d, isn_d, notn_d, isb_d]
  | m + 1, k, .lst xs, h, hm => by
    have hl : xs.length < LIM := by simp only [plD, Bool.and_eq_true, decide_eq_true_eq] at h; exact h.1
    have ha : ∀ x ∈ xs, plD m x = true := by simp only [plD, Bool.and_eq_true, List.all_eq_true] at h; exact h.2
    rw [show k + (m + 1) + 1 = (k + m + 1) + 1 by omega, vc (F := f19) rfl rfl]
    have e := compD_all (b := clauseB (callD P (k + m + 1)) (.nm 2) [] (.call 19 [.mov 2])) (own := [2]) (ρ1 := [some (.rawl xs.length), none, none]) (xs := xs) (toD := fun x => x) (acc := []) (ρ := [some (.rawl xs.length), none, none]) (fun _ => D.bl true) rfl (fun x hx => by
      simp -implicitDefEqProofs only [ev_var, ev_vin, ev_mov, ev_ref, ev_int, ev_bl, ev_non, ev_str, ev_gint, ev_op, evs_nil, evs_cons, ev_and, ev_or, ev_not, ev_ite, ev_scal, ev_tall, ev_chn, ev_comp, ev_comp2, evc_nil, evc_one, bind_nm, bind_tp2, bind_tl2, bind_tp3, bind_tp4, evSs_nil, evSs_cons, evS_asg, evS_par2, evS_par3, evS_sub, evS_sub2, evS_augs, evS_ex, evS_ret, evS_retN, evS_iff, evS_pass, evS_for, evS_whl, ev_call, ev_callk, ev_app, ev_pop, ev_popi, noRef, isRef_var, isRef_vin, isRef_mov, isRef_int, isRef_bl, isRef_str, isRef_pop, isRef_not, isRef_scal, isRef_non, isRef_op, isRef_gint, isRef_and, isRef_or, isRef_ite, isRef_call, isRef_callk, isRef_app, isRef_popi, isRef_comp, isRef_comp2, isRef_tall, isRef_chn, isRef_ref, ev_callR, eva_nil, eva_ref, eva_e, fill_nil, fill_ref, fill_e, back_nil, back_ref, back_e, fin1, fin2, fin3, Option.isNone_some, Bool.false_and, aug_lst, augn, ix3_0, sx3_0, ix3_1, sx3_1, ix3_2, sx3_2, ix5_0, sx5_0, ix5_1, sx5_1, ix5_2, sx5_2, ix5_3, sx5_3, ix5_4, sx5_4, Option.isNone_none, Bool.and_self, Bool.true_and, Bool.and_true, setAt_eq, oD0, oDs, st0, sts, wipe0, wipes, Option.map_some, Option.bind_some, cont_nx, cont_rt, cond_t, cond_f, cond_bl, not_bl, tst_bl, scal_int, scal_bl, scal_str, scal_non, valO_rt, valO_nx, wipeO_nx, wipeO_rt, wipeC_some, wipeF_some, isL_lst, l0, l1, l2, l3, l4, l5, l6, l7, l8, l9, l10, l11, l12, l13, l14, l15, l16, l17, l18, l19, l20, l21, l22, l23, l24, l25, l26, l27, l28, l29, l30, l31, l32, l33, l34, l35, l36, l37, l38, l39, l40, l41, l42, l43, l44, l45, l46, l47, l48, l49, l50, l51, l52, l53, l54, l55, l56, l57, l58, l59, l60, l61, l62, l63, l64, l65, l66, l67, l68, l69, l99, l100, l101, l131, l1000, l1001, l7919, l10007, l27183, l48271, l62089, l69621, l1000003, l1140671, l27644437, l32416187, l1103515245, l2147483587, l2147483629, l2147483647, l1000000000000000000, o_lst0, o_lst1, o_lst2, o_lst3, o_lst4, o_lst5, o_lst6, o_lst7, o_lst8, o_lst9, o_lst10, o_lst11, o_lst12, o_tup2, o_tup3, o_addn, o_neg1, o_ltn, o_len', o_gtn, o_gen, o_eqn, o_nen, o_eql, o_nel, o_eqll, o_nell, o_nenl, o_nenll, o_eqnl, o_eqnll, o_len, o_len0, o_lenD, o_drop, o_take, o_takez, arr10, arr01, arr0, arr210, arr012, arr120, arr201, o_rev, o_listOf, o_listOfT, o_tupOf, List.length_map, it_list, it_tup, it_rev, it_enum, it_zip, o_allb, o_all, o_any, o_anyb, o_sum, o_srt, o_inn, o_notin, o_innl, o_notinl, o_count, o_toInt, turnB, clauseB, clauseF, if_true, if_false, Bool.false_eq_true, Bool.not_true, Bool.not_false, v_spoilt (k := k) (ha x hx) (by omega)]) (by rw [List.length_nil]; omega)
    rw [List.map_id'] at e
    have hne : opD .ne [.lst xs, .lst []] = some (.bl (!xs.isEmpty)) := by
      have := o_nenil (f := fun d : D => d) (xs := xs) (by rw [List.map_id']; exact plD_ok h hm)
      rwa [List.map_id'] at this
    cases hc : xs.getLast? with
    | none =>
      have : xs = [] := by simpa using hc
      subst this
      simp -implicitDefEqProofs only [f19, startD, List.map_cons, List.map_nil, List.length_cons, List.length_nil, List.replicate, List.cons_append, List.nil_append, Nat.sub_self, Nat.sub_zero, Nat.zero_add, Nat.reduceAdd, Nat.reduceSub, ev_var, ev_vin, ev_mov, ev_ref, ev_int, ev_bl, ev_non, ev_str, ev_gint, ev_op, evs_nil, evs_cons, ev_and, ev_or, ev_not, ev_ite, ev_scal, ev_tall, ev_chn, ev_comp, ev_comp2, evc_nil, evc_one, bind_nm, bind_tp2, bind_tl2, bind_tp3, bind_tp4, evSs_nil, evSs_cons, evS_asg, evS_par2, evS_par3, evS_sub, evS_sub2, evS_augs, evS_ex, evS_ret, evS_retN, evS_iff, evS_pass, evS_for, evS_whl, ev_call, ev_callk, ev_app, ev_pop, ev_popi, noRef, isRef_var, isRef_vin, isRef_mov, isRef_int, isRef_bl, isRef_str, isRef_pop, isRef_not, isRef_scal, isRef_non, isRef_op, isRef_gint, isRef_and, isRef_or, isRef_ite, isRef_call, isRef_callk, isRef_app, isRef_popi, isRef_comp, isRef_comp2, isRef_tall, isRef_chn, isRef_ref, ev_callR, eva_nil, eva_ref, eva_e, fill_nil, fill_ref, fill_e, back_nil, back_ref, back_e, fin1, fin2, fin3, Option.isNone_some, Bool.false_and, aug_lst, augn, ix3_0, sx3_0, ix3_1, sx3_1, ix3_2, sx3_2, ix5_0, sx5_0, ix5_1, sx5_1, ix5_2, sx5_2, ix5_3, sx5_3, ix5_4, sx5_4, Option.isNone_none, Bool.and_self, Bool.true_and, Bool.and_true, setAt_eq, oD0, oDs, st0, sts, wipe0, wipes, Option.map_some, Option.bind_some, cont_nx, cont_rt, cond_t, cond_f, cond_bl, not_bl, tst_bl, scal_int, scal_bl, scal_str, scal_non, valO_rt, valO_nx, wipeO_nx, wipeO_rt, wipeC_some, wipeF_some, isL_lst, l0, l1, l2, l3, l4, l5, l6, l7, l8, l9, l10, l11, l12, l13, l14, l15, l16, l17, l18, l19, l20, l21, l22, l23, l24, l25, l26, l27, l28, l29, l30, l31, l32, l33, l34, l35, l36, l37, l38, l39, l40, l41, l42, l43, l44, l45, l46, l47, l48, l49, l50, l51, l52, l53, l54, l55, l56, l57, l58, l59, l60, l61, l62, l63, l64, l65, l66, l67, l68, l69, l99, l100, l101, l131, l1000, l1001, l7919, l10007, l27183, l48271, l62089, l69621, l1000003, l1140671, l27644437, l32416187, l1103515245, l2147483587, l2147483629, l2147483647, l1000000000000000000, o_lst0, o_lst1, o_lst2, o_lst3, o_lst4, o_lst5, o_lst6, o_lst7, o_lst8, o_lst9, o_lst10, o_lst11, o_lst12, o_tup2, o_tup3, o_addn, o_neg1, o_ltn, o_len', o_gtn, o_gen, o_eqn, o_nen, o_eql, o_nel, o_eqll, o_nell, o_nenl, o_nenll, o_eqnl, o_eqnll, o_len, o_len0, o_lenD, o_drop, o_take, o_takez, arr10, arr01, arr0, arr210, arr012, arr120, arr201, o_rev, o_listOf, o_listOfT, o_tupOf, List.length_map, it_list, it_tup, it_rev, it_enum, it_zip, o_allb, o_all, o_any, o_anyb, o_sum, o_srt, o_inn, o_notin, o_innl, o_notinl, o_count, o_toInt, turnB, clauseB, clauseF, if_true, if_false, Bool.false_eq_true, Bool.not_true, Bool.not_false, isi_i_int, isi_i_bool, isi_i_list, isi_i_tuple, isi_i_str, isi2_i, isn_i, notn_i, isb_i, isi_b_int, isi_b_bool, isi_b_list, isi_b_tuple, isi_b_str, isi2_b, isn_b, notn_b, isb_b, isi_s_int, isi_s_bool, isi_s_list, isi_s_tuple, isi_s_str, isi2_s, isn_s, notn_s, isb_s, isi_n_int, isi_n_bool, isi_n_list, isi_n_tuple, isi_n_str, isi2_n, isn_n, notn_n, isb_n, isi_l_int, isi_l_bool, isi_l_list, isi_l_tuple, isi_l_str, isi2_l, isn_l, notn_l, isb_l, isi_t_int, isi_t_bool, isi_t_list, isi_t_tuple, isi_t_str, isi2_t, isn_t, notn_t, isb_t, isi_d_int, isi_d_bool, isi_d_list, isi_d_tuple, isi_d_str, isi2_d, isn_d, notn_d, isb_d, hne, List.isEmpty_nil, ev_compO', compX_lst, ev_appR, isR_rawl, appR_lt hl, e]
      rfl
    | some y =>
      have hy := ha y (List.mem_of_getLast? hc)
      have hix : opD .ix [.lst xs, .int (Int.negSucc 0)] = some y := by
        have := o_ixlast (f := fun d : D => d) hc
        rwa [List.map_id'] at this
      have hne2 : xs.isEmpty = false := by cases xs <;> simp_all
      have hstr : opD (.isi "str") [y] = some (.bl false) := by
        cases y with
        | str s => simp [plD] at hy
        | oth => cases m <;> simp [plD] at hy
        | rawl _ => cases m <;> simp [plD] at hy
        | fzl _ => cases m <;> simp [plD] at hy
        | _ => simp only [isi_i_int, isi_i_bool, isi_i_list, isi_i_tuple, isi_i_str, isi2_i, isn_i, notn_i, isb_i, isi_b_int, isi_b_bool, isi_b_list, isi_b_tuple, isi_b_str, isi2_b, isn_b, notn_b, isb_b, isi_s_int, isi_s_bool, isi_s_list, isi_s_tuple, isi_s_str, isi2_s, isn_s, notn_s, isb_s, isi_n_int, isi_n_bool, isi_n_list, isi_n_tuple, isi_n_str, isi2_n, isn_n, notn_n, isb_n, isi_l_int, isi_l_bool, isi_l_list, isi_l_tuple, isi_l_str, isi2_l, isn_l, notn_l, isb_l, isi_t_int, isi_t_bool, isi_t_list, isi_t_tuple, isi_t_str, isi2_t, isn_t, notn_t, isb_t, isi_d_int, isi_d_bool, isi_d_list, isi_d_tuple, isi_d_str, isi2_d, isn_d, notn_d, isb_d]
      simp -implicitDefEqProofs only [f19, startD, List.map_cons, List.map_nil, List.length_cons, List.length_nil, List.replicate, List.cons_append, List.nil_append, Nat.sub_self, Nat.sub_zero, Nat.zero_add, Nat.reduceAdd, Nat.reduceSub, ev_var, ev_vin, ev_mov, ev_ref, ev_int, ev_bl, ev_non, ev_str, ev_gint, ev_op, evs_nil, evs_cons, ev_and, ev_or, ev_not, ev_ite, ev_scal, ev_tall, ev_chn, ev_comp, ev_comp2, evc_nil, evc_one, bind_nm, bind_tp2, bind_tl2, bind_tp3, bind_tp4, evSs_nil, evSs_cons, evS_asg, evS_par2, evS_par3, evS_sub, evS_sub2, evS_augs, evS_ex, evS_ret, evS_retN, evS_iff, evS_pass, evS_for, evS_whl, ev_call, ev_callk, ev_app, ev_pop, ev_popi, noRef, isRef_var, isRef_vin, isRef_mov, isRef_int, isRef_bl, isRef_str, isRef_pop, isRef_not, isRef_scal, isRef_non, isRef_op, isRef_gint, isRef_and, isRef_or, isRef_ite, isRef_call, isRef_callk, isRef_app, isRef_popi, isRef_comp, isRef_comp2, isRef_tall, isRef_chn, isRef_ref, ev_callR, eva_nil, eva_ref, eva_e, fill_nil, fill_ref, fill_e, back_nil, back_ref, back_e, fin1, fin2, fin3, Option.isNone_some, Bool.false_and, aug_lst, augn, ix3_0, sx3_0, ix3_1, sx3_1, ix3_2, sx3_2, ix5_0, sx5_0, ix5_1, sx5_1, ix5_2, sx5_2, ix5_3, sx5_3, ix5_4, sx5_4, Option.isNone_none, Bool.and_self, Bool.true_and, Bool.and_true, setAt_eq, oD0, oDs, st0, sts, wipe0, wipes, Option.map_some, Option.bind_some, cont_nx, cont_rt, cond_t, cond_f, cond_bl, not_bl, tst_bl, scal_int, scal_bl, scal_str, scal_non, valO_rt, valO_nx, wipeO_nx, wipeO_rt, wipeC_some, wipeF_some, isL_lst, l0, l1, l2, l3, l4, l5, l6, l7, l8, l9, l10, l11, l12, l13, l14, l15, l16, l17, l18, l19, l20, l21, l22, l23, l24, l25, l26, l27, l28, l29, l30, l31, l32, l33, l34, l35, l36, l37, l38, l39, l40, l41, l42, l43, l44, l45, l46, l47, l48, l49, l50, l51, l52, l53, l54, l55, l56, l57, l58, l59, l60, l61, l62, l63, l64, l65, l66, l67, l68, l69, l99, l100, l101, l131, l1000, l1001, l7919, l10007, l27183, l48271, l62089, l69621, l1000003, l1140671, l27644437, l32416187, l1103515245, l2147483587, l2147483629, l2147483647, l1000000000000000000, o_lst0, o_lst1, o_lst2, o_lst3, o_lst4, o_lst5, o_lst6, o_lst7, o_lst8, o_lst9, o_lst10, o_lst11, o_lst12, o_tup2, o_tup3, o_addn, o_neg1, o_ltn, o_len', o_gtn, o_gen, o_eqn, o_nen, o_eql, o_nel, o_eqll, o_nell, o_nenl, o_nenll, o_eqnl, o_eqnll, o_len, o_len0, o_lenD, o_drop, o_take, o_takez, arr10, arr01, arr0, arr210, arr012, arr120, arr201, o_rev, o_listOf, o_listOfT, o_tupOf, List.length_map, it_list, it_tup, it_rev, it_enum, it_zip, o_allb, o_all, o_any, o_anyb, o_sum, o_srt, o_inn, o_notin, o_innl, o_notinl, o_count, o_toInt, turnB, clauseB, clauseF, if_true, if_false, Bool.false_eq_true, Bool.not_true, Bool.not_false, isi_i_int, isi_i_bool, isi_i_list, isi_i_tuple, isi_i_str, isi2_i, isn_i, notn_i, isb_i, isi_b_int, isi_b_bool, isi_b_list, isi_b_tuple, isi_b_str, isi2_b, isn_b, notn_b, isb_b, isi_s_int, isi_s_bool, isi_s_list, isi_s_tuple, isi_s_str, isi2_s, isn_s, notn_s, isb_s, isi_n_int, isi_n_bool, isi_n_list, isi_n_tuple, isi_n_str, isi2_n, isn_n, notn_n, isb_n, isi_l_int, isi_l_bool, isi_l_list, isi_l_tuple, isi_l_str, isi2_l, isn_l, notn_l, isb_l, isi_t_int, isi_t_bool, isi_t_list, isi_t_tuple, isi_t_str, isi2_t, isn_t, notn_t, isb_t, isi_d_int, isi_d_bool, isi_d_list, isi_d_tuple, isi_d_str, isi2_d, isn_d, notn_d, isb_d, hne, hne2, hix, hstr, ev_compO', compX_lst, ev_appR, isR_rawl, appR_lt hl, e, all_tt]
  | m + 1, k, .tup xs, h, hm => by
    have hl : xs.length < LIM := by simp only [plD, Bool.and_eq_true, decide_eq_true_eq] at h; exact h.1
    have ha : ∀ x ∈ xs, plD m x = true := by simp only [plD, Bool.and_eq_true, List.all_eq_true] at h; exact h.2
    rw [show k + (m + 1) + 1 = (k + m + 1) + 1 by omega, vc (F := f19) rfl rfl]
    have e := compD_all (b := clauseB (callD P (k + m + 1)) (.nm 2) [] (.call 19 [.mov 2])) (own := [2]) (ρ1 := [some (.tup xs), none, none]) (xs := xs) (toD := fun x => x) (acc := []) (ρ := [some (.tup xs), none, none]) (fun _ => D.bl true) rfl (fun x hx => by
      simp -implicitDefEqProofs only [ev_var, ev_vin, ev_mov, ev_ref, ev_int, ev_bl, ev_non, ev_str, ev_gint, ev_op, evs_nil, evs_cons, ev_and, ev_or, ev_not, ev_ite, ev_scal, ev_tall, ev_chn, ev_comp, ev_comp2, evc_nil, evc_one, bind_nm, bind_tp2, bind_tl2, bind_tp3, bind_tp4, evSs_nil, evSs_cons, evS_asg, evS_par2, evS_par3, evS_sub, evS_sub2, evS_augs, evS_ex, evS_ret, evS_retN, evS_iff, evS_pass, evS_for, evS_whl, ev_call, ev_callk, ev_app, ev_pop, ev_popi, noRef, isRef_var, isRef_vin, isRef_mov, isRef_int, isRef_bl, isRef_str, isRef_pop, isRef_not, isRef_scal, isRef_non, isRef_op, isRef_gint, isRef_and, isRef_or, isRef_ite, isRef_call, isRef_callk, isRef_app, isRef_popi, isRef_comp, isRef_comp2, isRef_tall, isRef_chn, isRef_ref, ev_callR, eva_nil, eva_ref, eva_e, fill_nil, fill_ref, fill_e, back_nil, back_ref, back_e, fin1, fin2, fin3, Option.isNone_some, Bool.false_and, aug_lst, augn, ix3_0, sx3_0, ix3_1, sx3_1, ix3_2, sx3_2, ix5_0, sx5_0, ix5_1, sx5_1, ix5_2, sx5_2, ix5_3, sx5_3, ix5_4, sx5_4, Option.isNone_none, Bool.and_self, Bool.true_and, Bool.and_true, setAt_eq, oD0, oDs, st0, sts, wipe0, wipes, Option.map_some, Option.bind_some, cont_nx, cont_rt, cond_t, cond_f, cond_bl, not_bl, tst_bl, scal_int, scal_bl, scal_str, scal_non, valO_rt, valO_nx, wipeO_nx, wipeO_rt, wipeC_some, wipeF_some, isL_lst, l0, l1, l2, l3, l4, l5, l6, l7, l8, l9, l10, l11, l12, l13, l14, l15, l16, l17, l18, l19, l20, l21, l22, l23, l24, l25, l26, l27, l28, l29, l30, l31, l32, l33, l34, l35, l36, l37, l38, l39, l40, l41, l42, l43, l44, l45, l46, l47, l48, l49, l50, l51, l52, l53, l54, l55, l56, l57, l58, l59, l60, l61, l62, l63, l64, l65, l66, l67, l68, l69, l99, l100, l101, l131, l1000, l1001, l7919, l10007, l27183, l48271, l62089, l69621, l1000003, l1140671, l27644437, l32416187, l1103515245, l2147483587, l2147483629, l2147483647, l1000000000000000000, o_lst0, o_lst1, o_lst2, o_lst3, o_lst4, o_lst5, o_lst6, o_lst7, o_lst8, o_lst9, o_lst10, o_lst11, o_lst12, o_tup2, o_tup3, o_addn, o_neg1, o_ltn, o_len', o_gtn, o_gen, o_eqn, o_nen, o_eql, o_nel, o_eqll, o_nell, o_nenl, o_nenll, o_eqnl, o_eqnll, o_len, o_len0, o_lenD, o_drop, o_take, o_takez, arr10, arr01, arr0, arr210, arr012, arr120, arr201, o_rev, o_listOf, o_listOfT, o_tupOf, List.length_map, it_list, it_tup, it_rev, it_enum, it_zip, o_allb, o_all, o_any, o_anyb, o_sum, o_srt, o_inn, o_notin, o_innl, o_notinl, o_count, o_toInt, turnB, clauseB, clauseF, if_true, if_false, Bool.false_eq_true, Bool.not_true, Bool.not_false, v_spoilt (k := k) (ha x hx) (by omega)]) (by rw [List.length_nil]; omega)
    rw [List.map_id'] at e
    simp -implicitDefEqProofs only [f19, startD, List.map_cons, List.map_nil, List.length_cons, List.length_nil, List.replicate, List.cons_append, List.nil_append, Nat.sub_self, Nat.sub_zero, Nat.zero_add, Nat.reduceAdd, Nat.reduceSub, ev_var, ev_vin, ev_mov, ev_ref, ev_int, ev_bl, ev_non, ev_str, ev_gint, ev_op, evs_nil, evs_cons, ev_and, ev_or, ev_not, ev_ite, ev_scal, ev_tall, ev_chn, ev_comp, ev_comp2, evc_nil, evc_one, bind_nm, bind_tp2, bind_tl2, bind_tp3, bind_tp4, evSs_nil, evSs_cons, evS_asg, evS_par2, evS_par3, evS_sub, evS_sub2, evS_augs, evS_ex, evS_ret, evS_retN, evS_iff, evS_pass, evS_for, evS_whl, ev_call, ev_callk, ev_app, ev_pop, ev_popi, noRef, isRef_var, isRef_vin, isRef_mov, isRef_int, isRef_bl, isRef_str, isRef_pop, isRef_not, isRef_scal, isRef_non, isRef_op, isRef_gint, isRef_and, isRef_or, isRef_ite, isRef_call, isRef_callk, isRef_app, isRef_popi, isRef_comp, isRef_comp2, isRef_tall, isRef_chn, isRef_ref, ev_callR, eva_nil, eva_ref, eva_e, fill_nil, fill_ref, fill_e, back_nil, back_ref, back_e, fin1, fin2, fin3, Option.isNone_some, Bool.false_and, aug_lst, augn, ix3_0, sx3_0, ix3_1, sx3_1, ix3_2, sx3_2, ix5_0, sx5_0, ix5_1, sx5_1, ix5_2, sx5_2, ix5_3, sx5_3, ix5_4, sx5_4, Option.isNone_none, Bool.and_self, Bool.true_and, Bool.and_true, setAt_eq, oD0, oDs, st0, sts, wipe0, wipes, Option.map_some, Option.bind_some, cont_nx, cont_rt, cond_t, cond_f, cond_bl, not_bl, tst_bl, scal_int, scal_bl, scal_str, scal_non, valO_rt, valO_nx, wipeO_nx, wipeO_rt, wipeC_some, wipeF_some, isL_lst, l0, l1, l2, l3, l4, l5, l6, l7, l8, l9, l10, l11, l12, l13, l14, l15, l16, l17, l18, l19, l20, l21, l22, l23, l24, l25, l26, l27, l28, l29, l30, l31, l32, l33, l34, l35, l36, l37, l38, l39, l40, l41, l42, l43, l44, l45, l46, l47, l48, l49, l50, l51, l52, l53, l54, l55, l56, l57, l58, l59, l60, l61, l62, l63, l64, l65, l66, l67, l68, l69, l99, l100, l101, l131, l1000, l1001, l7919, l10007, l27183, l48271, l62089, l69621, l1000003, l1140671, l27644437, l32416187, l1103515245, l2147483587, l2147483629, l2147483647, l1000000000000000000, o_lst0, o_lst1, o_lst2, o_lst3, o_lst4, o_lst5, o_lst6, o_lst7, o_lst8, o_lst9, o_lst10, o_lst11, o_lst12, o_tup2, o_tup3, o_addn, o_neg1, o_ltn, o_len', o_gtn, o_gen, o_eqn, o_nen, o_eql, o_nel, o_eqll, o_nell, o_nenl, o_nenll, o_eqnl, o_eqnll, o_len, o_len0, o_lenD, o_drop, o_take, o_takez, arr10, arr01, arr0, arr210, arr012, arr120, arr201, o_rev, o_listOf, o_listOfT, o_tupOf, List.length_map, it_list, it_tup, it_rev, it_enum, it_zip, o_allb, o_all, o_any, o_anyb, o_sum, o_srt, o_inn, o_notin, o_innl, o_notinl, o_count, o_toInt, turnB, clauseB, clauseF, if_true, if_false, Bool.false_eq_true, Bool.not_true, Bool.not_false, isi_i_int, isi_i_bool, isi_i_list, isi_i_tuple, isi_i_str, isi2_i, isn_i, notn_i, isb_i, isi_b_int, isi_b_bool, isi_b_list, isi_b_tuple, isi_b_str, isi2_b, isn_b, notn_b, isb_b, isi_s_int, isi_s_bool, isi_s_list, isi_s_tuple, isi_s_str, isi2_s, isn_s, notn_s, isb_s, isi_n_int, isi_n_bool, isi_n_list, isi_n_tuple, isi_n_str, isi2_n, isn_n, notn_n, isb_n, isi_l_int, isi_l_bool, isi_l_list, isi_l_tuple, isi_l_str, isi2_l, isn_l, notn_l, isb_l, isi_t_int, isi_t_bool, isi_t_list, isi_t_tuple, isi_t_str, isi2_t, isn_t, notn_t, isb_t, isi_d_int, isi_d_bool, isi_d_list, isi_d_tuple, isi_d_str, isi2_d, isn_d, notn_d, isb_d, e, all_tt]
  | 0, k, .lst _, h, _ | 0, k, .tup _, h, _ | m, k, .str _, h, _ | m, k, .dct, h, _ | m, k, .fzl _, h, _ | m, k, .rawl _, h, _ | m, k, .oth, h, _ => by simp [plD] at h
end PL

namespace PL
open PySem OH
/-! ### a purse of a script -/
theorem v_purse {k : Nat} {ns : List Int} (hn : ns.length ≤ 63) : ∃ d, valC (callD P (k + 1)) 21 [.fzl (ns.map D.int)] = some d ∧ IsPu 0 d := by
  have ht : ns.take 63 = ns := List.take_of_length_le hn
  refine ⟨enc ⟨(ns.filter fun c => decide (((1000000000000000000 : Nat) : Int) ≤ c)).map Int.toNat, 0, 0, 0, ns.foldl (fun s c => (((s * 31 : Nat) : Int) + c).fmod ((2147483647 : Nat) : Int) |>.toNat) 7⟩, ?_, _, rfl, Nat.le_refl _⟩
  rw [vc (F := f21) rfl rfl]
  simp -implicitDefEqProofs only [f21, startD, List.map_cons, List.map_nil, List.length_cons, List.length_nil, List.replicate, List.cons_append, List.nil_append, Nat.sub_self, Nat.sub_zero, Nat.zero_add, Nat.reduceAdd, Nat.reduceSub, ev_var, ev_vin, ev_mov, ev_ref, ev_int, ev_bl, ev_non, ev_str, ev_gint, ev_op, evs_nil, evs_cons, ev_and, ev_or, ev_not, ev_ite, ev_scal, ev_tall, ev_chn, ev_comp, ev_comp2, evc_nil, evc_one, bind_nm, bind_tp2, bind_tl2, bind_tp3, bind_tp4, evSs_nil, evSs_cons, evS_asg, evS_par2, evS_par3, evS_sub, evS_sub2, evS_augs, evS_ex, evS_ret, evS_retN, evS_iff, evS_pass, evS_for, evS_whl, ev_call, ev_callk, ev_app, ev_pop, ev_popi, noRef, isRef_var, isRef_vin, isRef_mov, isRef_int, isRef_bl, isRef_str, isRef_pop, isRef_not, isRef_scal, isRef_non, isRef_op, isRef_gint, isRef_and, isRef_or, isRef_ite, isRef_call, isRef_callk, isRef_app, isRef_popi, isRef_comp, isRef_comp2, isRef_tall, isRef_chn, isRef_ref, ev_callR, eva_nil, eva_ref, eva_e, fill_nil, fill_ref, fill_e, back_nil, back_ref, back_e, fin1, fin2, fin3, Option.isNone_some, Bool.false_and, aug_lst, augn, ix3_0, sx3_0, ix3_1, sx3_1, ix3_2, sx3_2, ix5_0, sx5_0, ix5_1, sx5_1, ix5_2, sx5_2, ix5_3, sx5_3, ix5_4, sx5_4, Option.isNone_none, Bool.and_self, Bool.true_and, Bool.and_true, setAt_eq, oD0, oDs, st0, sts, wipe0, wipes, Option.map_some, Option.bind_some, cont_nx, cont_rt, cond_t, cond_f, cond_bl, not_bl, tst_bl, scal_int, scal_bl, scal_str, scal_non, valO_rt, valO_nx, wipeO_nx, wipeO_rt, wipeC_some, wipeF_some, isL_lst, l0, l1, l2, l3, l4, l5, l6, l7, l8, l9, l10, l11, l12, l13, l14, l15, l16, l17, l18, l19, l20, l21, l22, l23, l24, l25, l26, l27, l28, l29, l30, l31, l32, l33, l34, l35, l36, l37, l38, l39, l40, l41, l42, l43, l44, l45, l46, l47, l48, l49, l50, l51, l52, l53, l54, l55, l56, l57, l58, l59, l60, l61, l62, l63, l64, l65, l66, l67, l68, l69, l99, l100, l101, l131, l1000, l1001, l7919, l10007, l27183, l48271, l62089, l69621, l1000003, l1140671, l27644437, l32416187, l1103515245, l2147483587, l2147483629, l2147483647, l1000000000000000000, o_lst0, o_lst1, o_lst2, o_lst3, o_lst4, o_lst5, o_lst6, o_lst7, o_lst8, o_lst9, o_lst10, o_lst11, o_lst12, o_tup2, o_tup3, o_addn, o_neg1, o_ltn, o_len', o_gtn, o_gen, o_eqn, o_nen, o_eql, o_nel, o_eqll, o_nell, o_nenl, o_nenll, o_eqnl, o_eqnll, o_len, o_len0, o_lenD, o_drop, o_take, o_takez, arr10, arr01, arr0, arr210, arr012, arr120, arr201, o_rev, o_listOf, o_listOfT, o_tupOf, List.length_map, it_list, it_tup, it_rev, it_enum, it_zip, o_allb, o_all, o_any, o_anyb, o_sum, o_srt, o_inn, o_notin, o_innl, o_notinl, o_count, o_toInt, turnB, clauseB, clauseF, if_true, if_false, Bool.false_eq_true, Bool.not_true, Bool.not_false, ht]
  rw [forD_go (σ := Nat) (fun s => [some (.fzl (ns.map D.int)), some (dn s), none]) (fun s c => (((s * 31 : Nat) : Int) + c).fmod ((2147483647 : Nat) : Int) |>.toNat) (fun _ _ => True) 7 rfl trivial (fun m s c hc _ => ⟨?_, trivial⟩) (fun s => rfl)]
  · simp -implicitDefEqProofs only [ev_var, ev_vin, ev_mov, ev_ref, ev_int, ev_bl, ev_non, ev_str, ev_gint, ev_op, evs_nil, evs_cons, ev_and, ev_or, ev_not, ev_ite, ev_scal, ev_tall, ev_chn, ev_comp, ev_comp2, evc_nil, evc_one, bind_nm, bind_tp2, bind_tl2, bind_tp3, bind_tp4, evSs_nil, evSs_cons, evS_asg, evS_par2, evS_par3, evS_sub, evS_sub2, evS_augs, evS_ex, evS_ret, evS_retN, evS_iff, evS_pass, evS_for, evS_whl, ev_call, ev_callk, ev_app, ev_pop, ev_popi, noRef, isRef_var, isRef_vin, isRef_mov, isRef_int, isRef_bl, isRef_str, isRef_pop, isRef_not, isRef_scal, isRef_non, isRef_op, isRef_gint, isRef_and, isRef_or, isRef_ite, isRef_call, isRef_callk, isRef_app, isRef_popi, isRef_comp, isRef_comp2, isRef_tall, isRef_chn, isRef_ref, ev_callR, eva_nil, eva_ref, eva_e, fill_nil, fill_ref, fill_e, back_nil, back_ref, back_e, fin1, fin2, fin3, Option.isNone_some, Bool.false_and, aug_lst, augn, ix3_0, sx3_0, ix3_1, sx3_1, ix3_2, sx3_2, ix5_0, sx5_0, ix5_1, sx5_1, ix5_2, sx5_2, ix5_3, sx5_3, ix5_4, sx5_4, Option.isNone_none, Bool.and_self, Bool.true_and, Bool.and_true, setAt_eq, oD0, oDs, st0, sts, wipe0, wipes, Option.map_some, Option.bind_some, cont_nx, cont_rt, cond_t, cond_f, cond_bl, not_bl, tst_bl, scal_int, scal_bl, scal_str, scal_non, valO_rt, valO_nx, wipeO_nx, wipeO_rt, wipeC_some, wipeF_some, isL_lst, l0, l1, l2, l3, l4, l5, l6, l7, l8, l9, l10, l11, l12, l13, l14, l15, l16, l17, l18, l19, l20, l21, l22, l23, l24, l25, l26, l27, l28, l29, l30, l31, l32, l33, l34, l35, l36, l37, l38, l39, l40, l41, l42, l43, l44, l45, l46, l47, l48, l49, l50, l51, l52, l53, l54, l55, l56, l57, l58, l59, l60, l61, l62, l63, l64, l65, l66, l67, l68, l69, l99, l100, l101, l131, l1000, l1001, l7919, l10007, l27183, l48271, l62089, l69621, l1000003, l1140671, l27644437, l32416187, l1103515245, l2147483587, l2147483629, l2147483647, l1000000000000000000, o_lst0, o_lst1, o_lst2, o_lst3, o_lst4, o_lst5, o_lst6, o_lst7, o_lst8, o_lst9, o_lst10, o_lst11, o_lst12, o_tup2, o_tup3, o_addn, o_neg1, o_ltn, o_len', o_gtn, o_gen, o_eqn, o_nen, o_eql, o_nel, o_eqll, o_nell, o_nenl, o_nenll, o_eqnl, o_eqnll, o_len, o_len0, o_lenD, o_drop, o_take, o_takez, arr10, arr01, arr0, arr210, arr012, arr120, arr201, o_rev, o_listOf, o_listOfT, o_tupOf, List.length_map, it_list, it_tup, it_rev, it_enum, it_zip, o_allb, o_all, o_any, o_anyb, o_sum, o_srt, o_inn, o_notin, o_innl, o_notinl, o_count, o_toInt, turnB, clauseB, clauseF, if_true, if_false, Bool.false_eq_true, Bool.not_true, Bool.not_false, ht]
    rw [compD_some (fun c : Int => decide (((1000000000000000000 : Nat) : Int) ≤ c)) D.int rfl (fun c hc => ?_) (by simp only [List.length_nil, LIM]; omega)]
    · have e1 : (D.lst ([] ++ (ns.filter fun c => decide (((1000000000000000000 : Nat) : Int) ≤ c)).map D.int)) = dl ((ns.filter fun c => decide (((1000000000000000000 : Nat) : Int) ≤ c)).map Int.toNat) := by
        rw [List.nil_append, dl, List.map_map]
        congr 1
        refine List.map_congr_left fun c hc => ?_
        have := (List.mem_filter.mp hc).2
        simp only [decide_eq_true_eq] at this
        show D.int c = D.int (c.toNat : Int)
        rw [Int.toNat_of_nonneg (by omega)]
      simp -implicitDefEqProofs only [ev_var, ev_vin, ev_mov, ev_ref, ev_int, ev_bl, ev_non, ev_str, ev_gint, ev_op, evs_nil, evs_cons, ev_and, ev_or, ev_not, ev_ite, ev_scal, ev_tall, ev_chn, ev_comp, ev_comp2, evc_nil, evc_one, bind_nm, bind_tp2, bind_tl2, bind_tp3, bind_tp4, evSs_nil, evSs_cons, evS_asg, evS_par2, evS_par3, evS_sub, evS_sub2, evS_augs, evS_ex, evS_ret, evS_retN, evS_iff, evS_pass, evS_for, evS_whl, ev_call, ev_callk, ev_app, ev_pop, ev_popi, noRef, isRef_var, isRef_vin, isRef_mov, isRef_int, isRef_bl, isRef_str, isRef_pop, isRef_not, isRef_scal, isRef_non, isRef_op, isRef_gint, isRef_and, isRef_or, isRef_ite, isRef_call, isRef_callk, isRef_app, isRef_popi, isRef_comp, isRef_comp2, isRef_tall, isRef_chn, isRef_ref, ev_callR, eva_nil, eva_ref, eva_e, fill_nil, fill_ref, fill_e, back_nil, back_ref, back_e, fin1, fin2, fin3, Option.isNone_some, Bool.false_and, aug_lst, augn, ix3_0, sx3_0, ix3_1, sx3_1, ix3_2, sx3_2, ix5_0, sx5_0, ix5_1, sx5_1, ix5_2, sx5_2, ix5_3, sx5_3, ix5_4, sx5_4, Option.isNone_none, Bool.and_self, Bool.true_and, Bool.and_true, setAt_eq, oD0, oDs, st0, sts, wipe0, wipes, Option.map_some, Option.bind_some, cont_nx, cont_rt, cond_t, cond_f, cond_bl, not_bl, tst_bl, scal_int, scal_bl, scal_str, scal_non, valO_rt, valO_nx, wipeO_nx, wipeO_rt, wipeC_some, wipeF_some, isL_lst, l0, l1, l2, l3, l4, l5, l6, l7, l8, l9, l10, l11, l12, l13, l14, l15, l16, l17, l18, l19, l20, l21, l22, l23, l24, l25, l26, l27, l28, l29, l30, l31, l32, l33, l34, l35, l36, l37, l38, l39, l40, l41, l42, l43, l44, l45, l46, l47, l48, l49, l50, l51, l52, l53, l54, l55, l56, l57, l58, l59, l60, l61, l62, l63, l64, l65, l66, l67, l68, l69, l99, l100, l101, l131, l1000, l1001, l7919, l10007, l27183, l48271, l62089, l69621, l1000003, l1140671, l27644437, l32416187, l1103515245, l2147483587, l2147483629, l2147483647, l1000000000000000000, o_lst0, o_lst1, o_lst2, o_lst3, o_lst4, o_lst5, o_lst6, o_lst7, o_lst8, o_lst9, o_lst10, o_lst11, o_lst12, o_tup2, o_tup3, o_addn, o_neg1, o_ltn, o_len', o_gtn, o_gen, o_eqn, o_nen, o_eql, o_nel, o_eqll, o_nell, o_nenl, o_nenll, o_eqnl, o_eqnll, o_len, o_len0, o_lenD, o_drop, o_take, o_takez, arr10, arr01, arr0, arr210, arr012, arr120, arr201, o_rev, o_listOf, o_listOfT, o_tupOf, List.length_map, it_list, it_tup, it_rev, it_enum, it_zip, o_allb, o_all, o_any, o_anyb, o_sum, o_srt, o_inn, o_notin, o_innl, o_notinl, o_count, o_toInt, turnB, clauseB, clauseF, if_true, if_false, Bool.false_eq_true, Bool.not_true, Bool.not_false, e1]
      rfl
    · have e2 : (10 : Nat) ^ 18 = 1000000000000000000 := by decide
      simp -implicitDefEqProofs only [ev_var, ev_vin, ev_mov, ev_ref, ev_int, ev_bl, ev_non, ev_str, ev_gint, ev_op, evs_nil, evs_cons, ev_and, ev_or, ev_not, ev_ite, ev_scal, ev_tall, ev_chn, ev_comp, ev_comp2, evc_nil, evc_one, bind_nm, bind_tp2, bind_tl2, bind_tp3, bind_tp4, evSs_nil, evSs_cons, evS_asg, evS_par2, evS_par3, evS_sub, evS_sub2, evS_augs, evS_ex, evS_ret, evS_retN, evS_iff, evS_pass, evS_for, evS_whl, ev_call, ev_callk, ev_app, ev_pop, ev_popi, noRef, isRef_var, isRef_vin, isRef_mov, isRef_int, isRef_bl, isRef_str, isRef_pop, isRef_not, isRef_scal, isRef_non, isRef_op, isRef_gint, isRef_and, isRef_or, isRef_ite, isRef_call, isRef_callk, isRef_app, isRef_popi, isRef_comp, isRef_comp2, isRef_tall, isRef_chn, isRef_ref, ev_callR, eva_nil, eva_ref, eva_e, fill_nil, fill_ref, fill_e, back_nil, back_ref, back_e, fin1, fin2, fin3, Option.isNone_some, Bool.false_and, aug_lst, augn, ix3_0, sx3_0, ix3_1, sx3_1, ix3_2, sx3_2, ix5_0, sx5_0, ix5_1, sx5_1, ix5_2, sx5_2, ix5_3, sx5_3, ix5_4, sx5_4, Option.isNone_none, Bool.and_self, Bool.true_and, Bool.and_true, setAt_eq, oD0, oDs, st0, sts, wipe0, wipes, Option.map_some, Option.bind_some, cont_nx, cont_rt, cond_t, cond_f, cond_bl, not_bl, tst_bl, scal_int, scal_bl, scal_str, scal_non, valO_rt, valO_nx, wipeO_nx, wipeO_rt, wipeC_some, wipeF_some, isL_lst, l0, l1, l2, l3, l4, l5, l6, l7, l8, l9, l10, l11, l12, l13, l14, l15, l16, l17, l18, l19, l20, l21, l22, l23, l24, l25, l26, l27, l28, l29, l30, l31, l32, l33, l34, l35, l36, l37, l38, l39, l40, l41, l42, l43, l44, l45, l46, l47, l48, l49, l50, l51, l52, l53, l54, l55, l56, l57, l58, l59, l60, l61, l62, l63, l64, l65, l66, l67, l68, l69, l99, l100, l101, l131, l1000, l1001, l7919, l10007, l27183, l48271, l62089, l69621, l1000003, l1140671, l27644437, l32416187, l1103515245, l2147483587, l2147483629, l2147483647, l1000000000000000000, o_lst0, o_lst1, o_lst2, o_lst3, o_lst4, o_lst5, o_lst6, o_lst7, o_lst8, o_lst9, o_lst10, o_lst11, o_lst12, o_tup2, o_tup3, o_addn, o_neg1, o_ltn, o_len', o_gtn, o_gen, o_eqn, o_nen, o_eql, o_nel, o_eqll, o_nell, o_nenl, o_nenll, o_eqnl, o_eqnll, o_len, o_len0, o_lenD, o_drop, o_take, o_takez, arr10, arr01, arr0, arr210, arr012, arr120, arr201, o_rev, o_listOf, o_listOfT, o_tupOf, List.length_map, it_list, it_tup, it_rev, it_enum, it_zip, o_allb, o_all, o_any, o_anyb, o_sum, o_srt, o_inn, o_notin, o_innl, o_notinl, o_count, o_toInt, turnB, clauseB, clauseF, if_true, if_false, Bool.false_eq_true, Bool.not_true, Bool.not_false, o_pown (a := 10) (b := 18) (by omega) (by decide), o_ge, e2]
      by_cases h : ((1000000000000000000 : Nat) : Int) ≤ c
      · simp -implicitDefEqProofs only [ev_var, ev_vin, ev_mov, ev_ref, ev_int, ev_bl, ev_non, ev_str, ev_gint, ev_op, evs_nil, evs_cons, ev_and, ev_or, ev_not, ev_ite, ev_scal, ev_tall, ev_chn, ev_comp, ev_comp2, evc_nil, evc_one, bind_nm, bind_tp2, bind_tl2, bind_tp3, bind_tp4, evSs_nil, evSs_cons, evS_asg, evS_par2, evS_par3, evS_sub, evS_sub2, evS_augs, evS_ex, evS_ret, evS_retN, evS_iff, evS_pass, evS_for, evS_whl, ev_call, ev_callk, ev_app, ev_pop, ev_popi, noRef, isRef_var, isRef_vin, isRef_mov, isRef_int, isRef_bl, isRef_str, isRef_pop, isRef_not, isRef_scal, isRef_non, isRef_op, isRef_gint, isRef_and, isRef_or, isRef_ite, isRef_call, isRef_callk, isRef_app, isRef_popi, isRef_comp, isRef_comp2, isRef_tall, isRef_chn, isRef_ref, ev_callR, eva_nil, eva_ref, eva_e, fill_nil, fill_ref, fill_e, back_nil, back_ref, back_e, fin1, fin2, fin3, Option.isNone_some, Bool.false_and, aug_lst, augn, ix3_0, sx3_0, ix3_1, sx3_1, ix3_2, sx3_2, ix5_0, sx5_0, ix5_1, sx5_1, ix5_2, sx5_2, ix5_3, sx5_3, ix5_4, sx5_4, Option.isNone_none, Bool.and_self, Bool.true_and, Bool.and_true, setAt_eq, oD0, oDs, st0, sts, wipe0, wipes, Option.map_some, Option.bind_some, cont_nx, cont_rt, cond_t, cond_f, cond_bl, not_bl, tst_bl, scal_int, scal_bl, scal_str, scal_non, valO_rt, valO_nx, wipeO_nx, wipeO_rt, wipeC_some, wipeF_some, isL_lst, l0, l1, l2, l3, l4, l5, l6, l7, l8, l9, l10, l11, l12, l13, l14, l15, l16, l17, l18, l19, l20, l21, l22, l23, l24, l25, l26, l27, l28, l29, l30, l31, l32, l33, l34, l35, l36, l37, l38, l39, l40, l41, l42, l43, l44, l45, l46, l47, l48, l49, l50, l51, l52, l53, l54, l55, l56, l57, l58, l59, l60, l61, l62, l63, l64, l65, l66, l67, l68, l69, l99, l100, l101, l131, l1000, l1001, l7919, l10007, l27183, l48271, l62089, l69621, l1000003, l1140671, l27644437, l32416187, l1103515245, l2147483587, l2147483629, l2147483647, l1000000000000000000, o_lst0, o_lst1, o_lst2, o_lst3, o_lst4, o_lst5, o_lst6, o_lst7, o_lst8, o_lst9, o_lst10, o_lst11, o_lst12, o_tup2, o_tup3, o_addn, o_neg1, o_ltn, o_len', o_gtn, o_gen, o_eqn, o_nen, o_eql, o_nel, o_eqll, o_nell, o_nenl, o_nenll, o_eqnl, o_eqnll, o_len, o_len0, o_lenD, o_drop, o_take, o_takez, arr10, arr01, arr0, arr210, arr012, arr120, arr201, o_rev, o_listOf, o_listOfT, o_tupOf, List.length_map, it_list, it_tup, it_rev, it_enum, it_zip, o_allb, o_all, o_any, o_anyb, o_sum, o_srt, o_inn, o_notin, o_innl, o_notinl, o_count, o_toInt, turnB, clauseB, clauseF, if_true, if_false, Bool.false_eq_true, Bool.not_true, Bool.not_false, h, decide_true]
      · simp -implicitDefEqProofs only [ev_var, ev_vin, ev_mov, ev_ref, ev_int, ev_bl, ev_non, ev_str, ev_gint, ev_op, evs_nil, evs_cons, ev_and, ev_or, ev_not, ev_ite, ev_scal, ev_tall, ev_chn, ev_comp, ev_comp2, evc_nil, evc_one, bind_nm, bind_tp2, bind_tl2, bind_tp3, bind_tp4, evSs_nil, evSs_cons, evS_asg, evS_par2, evS_par3, evS_sub, evS_sub2, evS_augs, evS_ex, evS_ret, evS_retN, evS_iff, evS_pass, evS_for, evS_whl, ev_call, ev_callk, ev_app, ev_pop, ev_popi, noRef, isRef_var, isRef_vin, isRef_mov, isRef_int, isRef_bl, isRef_str, isRef_pop, isRef_not, isRef_scal, isRef_non, isRef_op, isRef_gint, isRef_and, isRef_or, isRef_ite, isRef_call, isRef_callk, isRef_app, isRef_popi, isRef_comp, isRef_comp2, isRef_tall, isRef_chn, isRef_ref, ev_callR, eva_nil, eva_ref, eva_e, fill_nil, fill_ref, fill_e, back_nil, back_ref, back_e, fin1, fin2, fin3, Option.isNone_some, Bool.false_and, aug_lst, augn, ix3_0, sx3_0, ix3_1, sx3_1, ix3_2, sx3_2, ix5_0, sx5_0, ix5_1, sx5_1, ix5_2, sx5_2, ix5_3, sx5_3, ix5_4, sx5_4, Option.isNone_none, Bool.and_self, Bool.true_and, Bool.and_true, setAt_eq, oD0, oDs, st0, sts, wipe0, wipes, Option.map_some, Option.bind_some, cont_nx, cont_rt, cond_t, cond_f, cond_bl, not_bl, tst_bl, scal_int, scal_bl, scal_str, scal_non, valO_rt, valO_nx, wipeO_nx, wipeO_rt, wipeC_some, wipeF_some, isL_lst, l0, l1, l2, l3, l4, l5, l6, l7, l8, l9, l10, l11, l12, l13, l14, l15, l16, l17, l18, l19, l20, l21, l22, l23, l24, l25, l26, l27, l28, l29, l30, l31, l32, l33, l34, l35, l36, l37, l38, l39, l40, l41, l42, l43, l44, l45, l46, l47, l48, l49, l50, l51, l52, l53, l54, l55, l56, l57, l58, l59, l60, l61, l62, l63, l64, l65, l66, l67, l68, l69, l99, l100, l101, l131, l1000, l1001, l7919, l10007, l27183, l48271, l62089, l69621, l1000003, l1140671, l27644437, l32416187, l1103515245, l2147483587, l2147483629, l2147483647, l1000000000000000000, o_lst0, o_lst1, o_lst2, o_lst3, o_lst4, o_lst5, o_lst6, o_lst7, o_lst8, o_lst9, o_lst10, o_lst11, o_lst12, o_tup2, o_tup3, o_addn, o_neg1, o_ltn, o_len', o_gtn, o_gen, o_eqn, o_nen, o_eql, o_nel, o_eqll, o_nell, o_nenl, o_nenll, o_eqnl, o_eqnll, o_len, o_len0, o_lenD, o_drop, o_take, o_takez, arr10, arr01, arr0, arr210, arr012, arr120, arr201, o_rev, o_listOf, o_listOfT, o_tupOf, List.length_map, it_list, it_tup, it_rev, it_enum, it_zip, o_allb, o_all, o_any, o_anyb, o_sum, o_srt, o_inn, o_notin, o_innl, o_notinl, o_count, o_toInt, turnB, clauseB, clauseF, if_true, if_false, Bool.false_eq_true, Bool.not_true, Bool.not_false, h, decide_false]
  · have e4 : ((((s * 31 : Nat) : Int) + c).fmod ((2147483647 : Nat) : Int)).toNat = ((((s * 31 : Nat) : Int) + c) % ((2147483647 : Nat) : Int)).toNat := by
      rw [Int.fmod_eq_emod_of_nonneg _ (by omega)]
    simp -implicitDefEqProofs only [ev_var, ev_vin, ev_mov, ev_ref, ev_int, ev_bl, ev_non, ev_str, ev_gint, ev_op, evs_nil, evs_cons, ev_and, ev_or, ev_not, ev_ite, ev_scal, ev_tall, ev_chn, ev_comp, ev_comp2, evc_nil, evc_one, bind_nm, bind_tp2, bind_tl2, bind_tp3, bind_tp4, evSs_nil, evSs_cons, evS_asg, evS_par2, evS_par3, evS_sub, evS_sub2, evS_augs, evS_ex, evS_ret, evS_retN, evS_iff, evS_pass, evS_for, evS_whl, ev_call, ev_callk, ev_app, ev_pop, ev_popi, noRef, isRef_var, isRef_vin, isRef_mov, isRef_int, isRef_bl, isRef_str, isRef_pop, isRef_not, isRef_scal, isRef_non, isRef_op, isRef_gint, isRef_and, isRef_or, isRef_ite, isRef_call, isRef_callk, isRef_app, isRef_popi, isRef_comp, isRef_comp2, isRef_tall, isRef_chn, isRef_ref, ev_callR, eva_nil, eva_ref, eva_e, fill_nil, fill_ref, fill_e, back_nil, back_ref, back_e, fin1, fin2, fin3, Option.isNone_some, Bool.false_and, aug_lst, augn, ix3_0, sx3_0, ix3_1, sx3_1, ix3_2, sx3_2, ix5_0, sx5_0, ix5_1, sx5_1, ix5_2, sx5_2, ix5_3, sx5_3, ix5_4, sx5_4, Option.isNone_none, Bool.and_self, Bool.true_and, Bool.and_true, setAt_eq, oD0, oDs, st0, sts, wipe0, wipes, Option.map_some, Option.bind_some, cont_nx, cont_rt, cond_t, cond_f, cond_bl, not_bl, tst_bl, scal_int, scal_bl, scal_str, scal_non, valO_rt, valO_nx, wipeO_nx, wipeO_rt, wipeC_some, wipeF_some, isL_lst, l0, l1, l2, l3, l4, l5, l6, l7, l8, l9, l10, l11, l12, l13, l14, l15, l16, l17, l18, l19, l20, l21, l22, l23, l24, l25, l26, l27, l28, l29, l30, l31, l32, l33, l34, l35, l36, l37, l38, l39, l40, l41, l42, l43, l44, l45, l46, l47, l48, l49, l50, l51, l52, l53, l54, l55, l56, l57, l58, l59, l60, l61, l62, l63, l64, l65, l66, l67, l68, l69, l99, l100, l101, l131, l1000, l1001, l7919, l10007, l27183, l48271, l62089, l69621, l1000003, l1140671, l27644437, l32416187, l1103515245, l2147483587, l2147483629, l2147483647, l1000000000000000000, o_lst0, o_lst1, o_lst2, o_lst3, o_lst4, o_lst5, o_lst6, o_lst7, o_lst8, o_lst9, o_lst10, o_lst11, o_lst12, o_tup2, o_tup3, o_addn, o_neg1, o_ltn, o_len', o_gtn, o_gen, o_eqn, o_nen, o_eql, o_nel, o_eqll, o_nell, o_nenl, o_nenll, o_eqnl, o_eqnll, o_len, o_len0, o_lenD, o_drop, o_take, o_takez, arr10, arr01, arr0, arr210, arr012, arr120, arr201, o_rev, o_listOf, o_listOfT, o_tupOf, List.length_map, it_list, it_tup, it_rev, it_enum, it_zip, o_allb, o_all, o_any, o_anyb, o_sum, o_srt, o_inn, o_notin, o_innl, o_notinl, o_count, o_toInt, turnB, clauseB, clauseF, if_true, if_false, Bool.false_eq_true, Bool.not_true, Bool.not_false, o_muln (a := s) (b := 31) (.inr (by omega)), o_add, o_modi (b := 2147483647) (by omega), e4]
/-! ### the functions that are asked -/
theorem v_held {k n m : Nat} {o p : List Nat} (ho : IsOrd n o) (h1 : 1 ≤ n) (h8 : n ≤ 8) (hp : IsOrd m p) (g1 : 1 ≤ m) (g8 : m ≤ 8) : valC (callD P (k + 4)) 11 [dl o, dl p] = some (roundD o p) := by
  rw [vc (F := f11) rfl rfl]
  simp -implicitDefEqProofs only [f11, startD, List.map_cons, List.map_nil, List.length_cons, List.length_nil, List.replicate, List.cons_append, List.nil_append, Nat.sub_self, Nat.sub_zero, Nat.zero_add, Nat.reduceAdd, Nat.reduceSub, ev_var, ev_vin, ev_mov, ev_ref, ev_int, ev_bl, ev_non, ev_str, ev_gint, ev_op, evs_nil, evs_cons, ev_and, ev_or, ev_not, ev_ite, ev_scal, ev_tall, ev_chn, ev_comp, ev_comp2, evc_nil, evc_one, bind_nm, bind_tp2, bind_tl2, bind_tp3, bind_tp4, evSs_nil, evSs_cons, evS_asg, evS_par2, evS_par3, evS_sub, evS_sub2, evS_augs, evS_ex, evS_ret, evS_retN, evS_iff, evS_pass, evS_for, evS_whl, ev_call, ev_callk, ev_app, ev_pop, ev_popi, noRef, isRef_var, isRef_vin, isRef_mov, isRef_int, isRef_bl, isRef_str, isRef_pop, isRef_not, isRef_scal, isRef_non, isRef_op, isRef_gint, isRef_and, isRef_or, isRef_ite, isRef_call, isRef_callk, isRef_app, isRef_popi, isRef_comp, isRef_comp2, isRef_tall, isRef_chn, isRef_ref, ev_callR, eva_nil, eva_ref, eva_e, fill_nil, fill_ref, fill_e, back_nil, back_ref, back_e, fin1, fin2, fin3, Option.isNone_some, Bool.false_and, aug_lst, augn, ix3_0, sx3_0, ix3_1, sx3_1, ix3_2, sx3_2, ix5_0, sx5_0, ix5_1, sx5_1, ix5_2, sx5_2, ix5_3, sx5_3, ix5_4, sx5_4, Option.isNone_none, Bool.and_self, Bool.true_and, Bool.and_true, setAt_eq, oD0, oDs, st0, sts, wipe0, wipes, Option.map_some, Option.bind_some, cont_nx, cont_rt, cond_t, cond_f, cond_bl, not_bl, tst_bl, scal_int, scal_bl, scal_str, scal_non, valO_rt, valO_nx, wipeO_nx, wipeO_rt, wipeC_some, wipeF_some, isL_lst, l0, l1, l2, l3, l4, l5, l6, l7, l8, l9, l10, l11, l12, l13, l14, l15, l16, l17, l18, l19, l20, l21, l22, l23, l24, l25, l26, l27, l28, l29, l30, l31, l32, l33, l34, l35, l36, l37, l38, l39, l40, l41, l42, l43, l44, l45, l46, l47, l48, l49, l50, l51, l52, l53, l54, l55, l56, l57, l58, l59, l60, l61, l62, l63, l64, l65, l66, l67, l68, l69, l99, l100, l101, l131, l1000, l1001, l7919, l10007, l27183, l48271, l62089, l69621, l1000003, l1140671, l27644437, l32416187, l1103515245, l2147483587, l2147483629, l2147483647, l1000000000000000000, o_lst0, o_lst1, o_lst2, o_lst3, o_lst4, o_lst5, o_lst6, o_lst7, o_lst8, o_lst9, o_lst10, o_lst11, o_lst12, o_tup2, o_tup3, o_addn, o_neg1, o_ltn, o_len', o_gtn, o_gen, o_eqn, o_nen, o_eql, o_nel, o_eqll, o_nell, o_nenl, o_nenll, o_eqnl, o_eqnll, o_len, o_len0, o_lenD, o_drop, o_take, o_takez, arr10, arr01, arr0, arr210, arr012, arr120, arr201, o_rev, o_listOf, o_listOfT, o_tupOf, List.length_map, it_list, it_tup, it_rev, it_enum, it_zip, o_allb, o_all, o_any, o_anyb, o_sum, o_srt, o_inn, o_notin, o_innl, o_notinl, o_count, o_toInt, turnB, clauseB, clauseF, if_true, if_false, Bool.false_eq_true, Bool.not_true, Bool.not_false, v_check_order (k := k) ho h1 h8, v_check_pattern (k := k) hp g1 g8, v_round (k := k) (o := o) (p := p) (by rw [ho.len]; exact h8) (by rw [hp.len]; exact g8)]
def freeB (p o : List Nat) : Bool := decide (o.getD 0 0 = 0) && isNon (roundD o p)
def roundFree (n : Nat) (p : List Nat) : List (List Nat) := (allOrd n).filter (freeB p)
theorem v_round_free {k n m : Nat} {p : List Nat} (h1 : 1 ≤ n) (h8 : n ≤ 6) (hp : IsOrd m p) (g1 : 1 ≤ m) (g8 : m ≤ 8) : valC (callD P (k + 4)) 12 [dn n, dl p] = some (dll (roundFree n p)) := by
  rw [vc (F := f12) rfl rfl]
  have c6 : decide (6 < n) = false := decide_eq_false (by omega)
  simp -implicitDefEqProofs only [f12, startD, List.map_cons, List.map_nil, List.length_cons, List.length_nil, List.replicate, List.cons_append, List.nil_append, Nat.sub_self, Nat.sub_zero, Nat.zero_add, Nat.reduceAdd, Nat.reduceSub, ev_var, ev_vin, ev_mov, ev_ref, ev_int, ev_bl, ev_non, ev_str, ev_gint, ev_op, evs_nil, evs_cons, ev_and, ev_or, ev_not, ev_ite, ev_scal, ev_tall, ev_chn, ev_comp, ev_comp2, evc_nil, evc_one, bind_nm, bind_tp2, bind_tl2, bind_tp3, bind_tp4, evSs_nil, evSs_cons, evS_asg, evS_par2, evS_par3, evS_sub, evS_sub2, evS_augs, evS_ex, evS_ret, evS_retN, evS_iff, evS_pass, evS_for, evS_whl, ev_call, ev_callk, ev_app, ev_pop, ev_popi, noRef, isRef_var, isRef_vin, isRef_mov, isRef_int, isRef_bl, isRef_str, isRef_pop, isRef_not, isRef_scal, isRef_non, isRef_op, isRef_gint, isRef_and, isRef_or, isRef_ite, isRef_call, isRef_callk, isRef_app, isRef_popi, isRef_comp, isRef_comp2, isRef_tall, isRef_chn, isRef_ref, ev_callR, eva_nil, eva_ref, eva_e, fill_nil, fill_ref, fill_e, back_nil, back_ref, back_e, fin1, fin2, fin3, Option.isNone_some, Bool.false_and, aug_lst, augn, ix3_0, sx3_0, ix3_1, sx3_1, ix3_2, sx3_2, ix5_0, sx5_0, ix5_1, sx5_1, ix5_2, sx5_2, ix5_3, sx5_3, ix5_4, sx5_4, Option.isNone_none, Bool.and_self, Bool.true_and, Bool.and_true, setAt_eq, oD0, oDs, st0, sts, wipe0, wipes, Option.map_some, Option.bind_some, cont_nx, cont_rt, cond_t, cond_f, cond_bl, not_bl, tst_bl, scal_int, scal_bl, scal_str, scal_non, valO_rt, valO_nx, wipeO_nx, wipeO_rt, wipeC_some, wipeF_some, isL_lst, l0, l1, l2, l3, l4, l5, l6, l7, l8, l9, l10, l11, l12, l13, l14, l15, l16, l17, l18, l19, l20, l21, l22, l23, l24, l25, l26, l27, l28, l29, l30, l31, l32, l33, l34, l35, l36, l37, l38, l39, l40, l41, l42, l43, l44, l45, l46, l47, l48, l49, l50, l51, l52, l53, l54, l55, l56, l57, l58, l59, l60, l61, l62, l63, l64, l65, l66, l67, l68, l69, l99, l100, l101, l131, l1000, l1001, l7919, l10007, l27183, l48271, l62089, l69621, l1000003, l1140671, l27644437, l32416187, l1103515245, l2147483587, l2147483629, l2147483647, l1000000000000000000, o_lst0, o_lst1, o_lst2, o_lst3, o_lst4, o_lst5, o_lst6, o_lst7, o_lst8, o_lst9, o_lst10, o_lst11, o_lst12, o_tup2, o_tup3, o_addn, o_neg1, o_ltn, o_len', o_gtn, o_gen, o_eqn, o_nen, o_eql, o_nel, o_eqll, o_nell, o_nenl, o_nenll, o_eqnl, o_eqnll, o_len, o_len0, o_lenD, o_drop, o_take, o_takez, arr10, arr01, arr0, arr210, arr012, arr120, arr201, o_rev, o_listOf, o_listOfT, o_tupOf, List.length_map, it_list, it_tup, it_rev, it_enum, it_zip, o_allb, o_all, o_any, o_anyb, o_sum, o_srt, o_inn, o_notin, o_innl, o_notinl, o_count, o_toInt, turnB, clauseB, clauseF, if_true, if_false, Bool.false_eq_true, Bool.not_true, Bool.not_false, v_check_size (k := k + 1) h1 (show n ≤ 8 by omega), v_check_pattern (k := k) hp g1 g8, c6, v_all_orders (k := k + 2) (show n ≤ 8 by omega)]
  rw [compD_some (freeB p) dl rfl (fun o ho => ?_) (by
    have := allOrd_len (n := n)
    have := pow_lim (n := n) (t := n) (by omega) (by omega)
    simp only [List.length_nil]; omega)]
  · simp -implicitDefEqProofs only [ev_var, ev_vin, ev_mov, ev_ref, ev_int, ev_bl, ev_non, ev_str, ev_gint, ev_op, evs_nil, evs_cons, ev_and, ev_or, ev_not, ev_ite, ev_scal, ev_tall, ev_chn, ev_comp, ev_comp2, evc_nil, evc_one, bind_nm, bind_tp2, bind_tl2, bind_tp3, bind_tp4, evSs_nil, evSs_cons, evS_asg, evS_par2, evS_par3, evS_sub, evS_sub2, evS_augs, evS_ex, evS_ret, evS_retN, evS_iff, evS_pass, evS_for, evS_whl, ev_call, ev_callk, ev_app, ev_pop, ev_popi, noRef, isRef_var, isRef_vin, isRef_mov, isRef_int, isRef_bl, isRef_str, isRef_pop, isRef_not, isRef_scal, isRef_non, isRef_op, isRef_gint, isRef_and, isRef_or, isRef_ite, isRef_call, isRef_callk, isRef_app, isRef_popi, isRef_comp, isRef_comp2, isRef_tall, isRef_chn, isRef_ref, ev_callR, eva_nil, eva_ref, eva_e, fill_nil, fill_ref, fill_e, back_nil, back_ref, back_e, fin1, fin2, fin3, Option.isNone_some, Bool.false_and, aug_lst, augn, ix3_0, sx3_0, ix3_1, sx3_1, ix3_2, sx3_2, ix5_0, sx5_0, ix5_1, sx5_1, ix5_2, sx5_2, ix5_3, sx5_3, ix5_4, sx5_4, Option.isNone_none, Bool.and_self, Bool.true_and, Bool.and_true, setAt_eq, oD0, oDs, st0, sts, wipe0, wipes, Option.map_some, Option.bind_some, cont_nx, cont_rt, cond_t, cond_f, cond_bl, not_bl, tst_bl, scal_int, scal_bl, scal_str, scal_non, valO_rt, valO_nx, wipeO_nx, wipeO_rt, wipeC_some, wipeF_some, isL_lst, l0, l1, l2, l3, l4, l5, l6, l7, l8, l9, l10, l11, l12, l13, l14, l15, l16, l17, l18, l19, l20, l21, l22, l23, l24, l25, l26, l27, l28, l29, l30, l31, l32, l33, l34, l35, l36, l37, l38, l39, l40, l41, l42, l43, l44, l45, l46, l47, l48, l49, l50, l51, l52, l53, l54, l55, l56, l57, l58, l59, l60, l61, l62, l63, l64, l65, l66, l67, l68, l69, l99, l100, l101, l131, l1000, l1001, l7919, l10007, l27183, l48271, l62089, l69621, l1000003, l1140671, l27644437, l32416187, l1103515245, l2147483587, l2147483629, l2147483647, l1000000000000000000, o_lst0, o_lst1, o_lst2, o_lst3, o_lst4, o_lst5, o_lst6, o_lst7, o_lst8, o_lst9, o_lst10, o_lst11, o_lst12, o_tup2, o_tup3, o_addn, o_neg1, o_ltn, o_len', o_gtn, o_gen, o_eqn, o_nen, o_eql, o_nel, o_eqll, o_nell, o_nenl, o_nenll, o_eqnl, o_eqnll, o_len, o_len0, o_lenD, o_drop, o_take, o_takez, arr10, arr01, arr0, arr210, arr012, arr120, arr201, o_rev, o_listOf, o_listOfT, o_tupOf, List.length_map, it_list, it_tup, it_rev, it_enum, it_zip, o_allb, o_all, o_any, o_anyb, o_sum, o_srt, o_inn, o_notin, o_innl, o_notinl, o_count, o_toInt, turnB, clauseB, clauseF, if_true, if_false, Bool.false_eq_true, Bool.not_true, Bool.not_false, List.nil_append]; rfl
  · obtain ⟨l1, l2, l3⟩ := allOrd_ok o ho
    simp -implicitDefEqProofs only [ev_var, ev_vin, ev_mov, ev_ref, ev_int, ev_bl, ev_non, ev_str, ev_gint, ev_op, evs_nil, evs_cons, ev_and, ev_or, ev_not, ev_ite, ev_scal, ev_tall, ev_chn, ev_comp, ev_comp2, evc_nil, evc_one, bind_nm, bind_tp2, bind_tl2, bind_tp3, bind_tp4, evSs_nil, evSs_cons, evS_asg, evS_par2, evS_par3, evS_sub, evS_sub2, evS_augs, evS_ex, evS_ret, evS_retN, evS_iff, evS_pass, evS_for, evS_whl, ev_call, ev_callk, ev_app, ev_pop, ev_popi, noRef, isRef_var, isRef_vin, isRef_mov, isRef_int, isRef_bl, isRef_str, isRef_pop, isRef_not, isRef_scal, isRef_non, isRef_op, isRef_gint, isRef_and, isRef_or, isRef_ite, isRef_call, isRef_callk, isRef_app, isRef_popi, isRef_comp, isRef_comp2, isRef_tall, isRef_chn, isRef_ref, ev_callR, eva_nil, eva_ref, eva_e, fill_nil, fill_ref, fill_e, back_nil, back_ref, back_e, fin1, fin2, fin3, Option.isNone_some, Bool.false_and, aug_lst, augn, ix3_0, sx3_0, ix3_1, sx3_1, ix3_2, sx3_2, ix5_0, sx5_0, ix5_1, sx5_1, ix5_2, sx5_2, ix5_3, sx5_3, ix5_4, sx5_4, Option.isNone_none, Bool.and_self, Bool.true_and, Bool.and_true, setAt_eq, oD0, oDs, st0, sts, wipe0, wipes, Option.map_some, Option.bind_some, cont_nx, cont_rt, cond_t, cond_f, cond_bl, not_bl, tst_bl, scal_int, scal_bl, scal_str, scal_non, valO_rt, valO_nx, wipeO_nx, wipeO_rt, wipeC_some, wipeF_some, isL_lst, l0, l1, l2, l3, l4, l5, l6, l7, l8, l9, l10, l11, l12, l13, l14, l15, l16, l17, l18, l19, l20, l21, l22, l23, l24, l25, l26, l27, l28, l29, l30, l31, l32, l33, l34, l35, l36, l37, l38, l39, l40, l41, l42, l43, l44, l45, l46, l47, l48, l49, l50, l51, l52, l53, l54, l55, l56, l57, l58, l59, l60, l61, l62, l63, l64, l65, l66, l67, l68, l69, l99, l100, l101, l131, l1000, l1001, l7919, l10007, l27183, l48271, l62089, l69621, l1000003, l1140671, l27644437, l32416187, l1103515245, l2147483587, l2147483629, l2147483647, l1000000000000000000, o_lst0, o_lst1, o_lst2, o_lst3, o_lst4, o_lst5, o_lst6, o_lst7, o_lst8, o_lst9, o_lst10, o_lst11, o_lst12, o_tup2, o_tup3, o_addn, o_neg1, o_ltn, o_len', o_gtn, o_gen, o_eqn, o_nen, o_eql, o_nel, o_eqll, o_nell, o_nenl, o_nenll, o_eqnl, o_eqnll, o_len, o_len0, o_lenD, o_drop, o_take, o_takez, arr10, arr01, arr0, arr210, arr012, arr120, arr201, o_rev, o_listOf, o_listOfT, o_tupOf, List.length_map, it_list, it_tup, it_rev, it_enum, it_zip, o_allb, o_all, o_any, o_anyb, o_sum, o_srt, o_inn, o_notin, o_innl, o_notinl, o_count, o_toInt, turnB, clauseB, clauseF, if_true, if_false, Bool.false_eq_true, Bool.not_true, Bool.not_false, o_ixd (o := o) (p := 0) (by omega)]
    by_cases c : o.getD 0 0 = 0
    · simp -implicitDefEqProofs only [ev_var, ev_vin, ev_mov, ev_ref, ev_int, ev_bl, ev_non, ev_str, ev_gint, ev_op, evs_nil, evs_cons, ev_and, ev_or, ev_not, ev_ite, ev_scal, ev_tall, ev_chn, ev_comp, ev_comp2, evc_nil, evc_one, bind_nm, bind_tp2, bind_tl2, bind_tp3, bind_tp4, evSs_nil, evSs_cons, evS_asg, evS_par2, evS_par3, evS_sub, evS_sub2, evS_augs, evS_ex, evS_ret, evS_retN, evS_iff, evS_pass, evS_for, evS_whl, ev_call, ev_callk, ev_app, ev_pop, ev_popi, noRef, isRef_var, isRef_vin, isRef_mov, isRef_int, isRef_bl, isRef_str, isRef_pop, isRef_not, isRef_scal, isRef_non, isRef_op, isRef_gint, isRef_and, isRef_or, isRef_ite, isRef_call, isRef_callk, isRef_app, isRef_popi, isRef_comp, isRef_comp2, isRef_tall, isRef_chn, isRef_ref, ev_callR, eva_nil, eva_ref, eva_e, fill_nil, fill_ref, fill_e, back_nil, back_ref, back_e, fin1, fin2, fin3, Option.isNone_some, Bool.false_and, aug_lst, augn, ix3_0, sx3_0, ix3_1, sx3_1, ix3_2, sx3_2, ix5_0, sx5_0, ix5_1, sx5_1, ix5_2, sx5_2, ix5_3, sx5_3, ix5_4, sx5_4, Option.isNone_none, Bool.and_self, Bool.true_and, Bool.and_true, setAt_eq, oD0, oDs, st0, sts, wipe0, wipes, Option.map_some, Option.bind_some, cont_nx, cont_rt, cond_t, cond_f, cond_bl, not_bl, tst_bl, scal_int, scal_bl, scal_str, scal_non, valO_rt, valO_nx, wipeO_nx, wipeO_rt, wipeC_some, wipeF_some, isL_lst, l0, l1, l2, l3, l4, l5, l6, l7, l8, l9, l10, l11, l12, l13, l14, l15, l16, l17, l18, l19, l20, l21, l22, l23, l24, l25, l26, l27, l28, l29, l30, l31, l32, l33, l34, l35, l36, l37, l38, l39, l40, l41, l42, l43, l44, l45, l46, l47, l48, l49, l50, l51, l52, l53, l54, l55, l56, l57, l58, l59, l60, l61, l62, l63, l64, l65, l66, l67, l68, l69, l99, l100, l101, l131, l1000, l1001, l7919, l10007, l27183, l48271, l62089, l69621, l1000003, l1140671, l27644437, l32416187, l1103515245, l2147483587, l2147483629, l2147483647, l1000000000000000000, o_lst0, o_lst1, o_lst2, o_lst3, o_lst4, o_lst5, o_lst6, o_lst7, o_lst8, o_lst9, o_lst10, o_lst11, o_lst12, o_tup2, o_tup3, o_addn, o_neg1, o_ltn, o_len', o_gtn, o_gen, o_eqn, o_nen, o_eql, o_nel, o_eqll, o_nell, o_nenl, o_nenll, o_eqnl, o_eqnll, o_len, o_len0, o_lenD, o_drop, o_take, o_takez, arr10, arr01, arr0, arr210, arr012, arr120, arr201, o_rev, o_listOf, o_listOfT, o_tupOf, List.length_map, it_list, it_tup, it_rev, it_enum, it_zip, o_allb, o_all, o_any, o_anyb, o_sum, o_srt, o_inn, o_notin, o_innl, o_notinl, o_count, o_toInt, turnB, clauseB, clauseF, if_true, if_false, Bool.false_eq_true, Bool.not_true, Bool.not_false, c, decide_true, v_round (k := k) (o := o) (p := p) (by omega) (by rw [hp.len]; exact g8), o_isNon, freeB]
      split <;> rfl
    · simp -implicitDefEqProofs only [ev_var, ev_vin, ev_mov, ev_ref, ev_int, ev_bl, ev_non, ev_str, ev_gint, ev_op, evs_nil, evs_cons, ev_and, ev_or, ev_not, ev_ite, ev_scal, ev_tall, ev_chn, ev_comp, ev_comp2, evc_nil, evc_one, bind_nm, bind_tp2, bind_tl2, bind_tp3, bind_tp4, evSs_nil, evSs_cons, evS_asg, evS_par2, evS_par3, evS_sub, evS_sub2, evS_augs, evS_ex, evS_ret, evS_retN, evS_iff, evS_pass, evS_for, evS_whl, ev_call, ev_callk, ev_app, ev_pop, ev_popi, noRef, isRef_var, isRef_vin, isRef_mov, isRef_int, isRef_bl, isRef_str, isRef_pop, isRef_not, isRef_scal, isRef_non, isRef_op, isRef_gint, isRef_and, isRef_or, isRef_ite, isRef_call, isRef_callk, isRef_app, isRef_popi, isRef_comp, isRef_comp2, isRef_tall, isRef_chn, isRef_ref, ev_callR, eva_nil, eva_ref, eva_e, fill_nil, fill_ref, fill_e, back_nil, back_ref, back_e, fin1, fin2, fin3, Option.isNone_some, Bool.false_and, aug_lst, augn, ix3_0, sx3_0, ix3_1, sx3_1, ix3_2, sx3_2, ix5_0, sx5_0, ix5_1, sx5_1, ix5_2, sx5_2, ix5_3, sx5_3, ix5_4, sx5_4, Option.isNone_none, Bool.and_self, Bool.true_and, Bool.and_true, setAt_eq, oD0, oDs, st0, sts, wipe0, wipes, Option.map_some, Option.bind_some, cont_nx, cont_rt, cond_t, cond_f, cond_bl, not_bl, tst_bl, scal_int, scal_bl, scal_str, scal_non, valO_rt, valO_nx, wipeO_nx, wipeO_rt, wipeC_some, wipeF_some, isL_lst, l0, l1, l2, l3, l4, l5, l6, l7, l8, l9, l10, l11, l12, l13, l14, l15, l16, l17, l18, l19, l20, l21, l22, l23, l24, l25, l26, l27, l28, l29, l30, l31, l32, l33, l34, l35, l36, l37, l38, l39, l40, l41, l42, l43, l44, l45, l46, l47, l48, l49, l50, l51, l52, l53, l54, l55, l56, l57, l58, l59, l60, l61, l62, l63, l64, l65, l66, l67, l68, l69, l99, l100, l101, l131, l1000, l1001, l7919, l10007, l27183, l48271, l62089, l69621, l1000003, l1140671, l27644437, l32416187, l1103515245, l2147483587, l2147483629, l2147483647, l1000000000000000000, o_lst0, o_lst1, o_lst2, o_lst3, o_lst4, o_lst5, o_lst6, o_lst7, o_lst8, o_lst9, o_lst10, o_lst11, o_lst12, o_tup2, o_tup3, o_addn, o_neg1, o_ltn, o_len', o_gtn, o_gen, o_eqn, o_nen, o_eql, o_nel, o_eqll, o_nell, o_nenl, o_nenll, o_eqnl, o_eqnll, o_len, o_len0, o_lenD, o_drop, o_take, o_takez, arr10, arr01, arr0, arr210, arr012, arr120, arr201, o_rev, o_listOf, o_listOfT, o_tupOf, List.length_map, it_list, it_tup, it_rev, it_enum, it_zip, o_allb, o_all, o_any, o_anyb, o_sum, o_srt, o_inn, o_notin, o_innl, o_notinl, o_count, o_toInt, turnB, clauseB, clauseF, if_true, if_false, Bool.false_eq_true, Bool.not_true, Bool.not_false, c, decide_false, freeB]
theorem pl_round {o p : List Nat} (hp : p.length ≤ 8) : plD 2 (roundD o p) = true := by
  unfold roundD
  cases (List.range o.length).find? (fun m => (lotAt o p m).isSome) with
  | none => rfl
  | some m =>
    have hl : ((lotAt o p m).getD []).length ≤ 8 := by
      cases e : lotAt o p m with
      | none => simp
      | some lot =>
        unfold lotAt at e
        have := (lots_ok lot (List.mem_of_find?_eq_some e)).1
        simp only [Option.getD_some]; omega
    exact pl_tup2 pl_dn (pl_dl (by simp only [LIM]; omega))
theorem rep_two {o p : List Nat} (h : ∀ x ∈ o, x < 10 ^ 50) (g : ∀ x ∈ p, x < 10 ^ 50) : repD (.lst [dl o, dl p]) = true := by
  simp only [repD, repL, Bool.and_eq_true, Bool.and_true]
  have a := rep_dl h
  have b := rep_dl g
  simp only [repD] at a b
  exact ⟨a, b⟩
/-- the rest of a turn -/
theorem v_rest {n m : Nat} {o p : List Nat} {sc d : D} {t c : Nat} (ho : IsOrd n o) (h1 : 1 ≤ n) (h8 : n ≤ 8) (hp : IsOrd m p) (g1 : 1 ≤ m) (g8 : m ≤ 8) (hd : IsPu c d) (hc : c < 2 ^ 50) :
    ∃ ρ' d', wipeO [2, 3, 4, 5, 6, 7, 8, 9, 10, 11] (evSs (callD P 39) [
    .par [6, 7] [.op .repr [.op .lst [.var 4, .var 5]], .call 13 [.var 4, .var 5]],
    .asg (.nm 3) (.call 11 [.var 4, .var 5]),
    .iff (.or (.not (.call 20 [.op .lst [.var 3, .callk 11 [.var 5, .var 4] [1, 0]], .op .lst [.var 7, .mov 7]])) (.or (.not (.call 19 [.op .lst [.mov 3]])) (.op .ne [.op .repr [.op .lst [.mov 4, .var 5]], .vin 6]))) [
      .ret (.bl false)] [],
    .iff (.op .lt [.vin 2, .int 2]) [
      .asg (.nm 8) (.op .add [.int 1, .call 22 [.ref 1, .int 5]]),
      .asg (.nm 9) (.comp (.nm 11) [11] .list [.call 17 [.scal (.var 8)]] [.and (.op .eq [.op .ix [.vin 11, .int 0], .int 0]) (.op .isN [.call 13 [.var 11, .var 5]])] (.mov 11)),
      .asg (.nm 10) (.call 12 [.scal (.var 8), .var 5]),
      .iff (.or (.not (.call 20 [.op .lst [.var 10, .callk 12 [.mov 5, .scal (.var 8)] [1, 0]], .op .lst [.var 9, .mov 9]])) (.not (.call 19 [.mov 10]))) [
        .ret (.bl false)] []] []] [some sc, some d, some (dn t), none, some (dl o), some (dl p), none, none, none, none, none, none]) = some (.nx ρ') ∧ ρ' = [some sc, some d', none, none, none, none, none, none, none, none, none, none] ∧ IsPu (c + 1) d' := by
  have lo : o.length ≤ 8 := by rw [ho.len]; exact h8
  have lp : p.length ≤ 8 := by rw [hp.len]; exact g8
  have big : (8 : Nat) < 10 ^ 50 := by decide
  have hr : repD (.lst [dl o, dl p]) = true := rep_two (fun x hx => by have := ho.lt x hx; omega) (fun x hx => by have := hp.lt x hx; omega)
  have e1 : opD .repr [.lst [dl o, dl p]] = some (.str (D.shown (.lst [dl o, dl p]))) := o_repr hr (by
    have a := wt_dl o
    have b := wt_dl p
    simp only [D.wt, D.wtL] at a b ⊢
    simp only [LIM]; omega) (by
    have a := dl_h o
    have b := dl_h p
    simp only [D.height, D.heightL] at a b ⊢; omega)
  have e2 := o_ne_same hr
  have e3 := v_first (k := 37) lo lp
  have e4 := v_held (k := 35) ho h1 h8 hp g1 g8
  have pr := pl_round (o := o) lp
  generalize hsh : D.shown (.lst [dl o, dl p]) = sh at e1 e2
  generalize hrd : roundD o p = rd at e3 e4 pr
  have e5 : valC (callD P 39) 20 [.lst [rd, rd], .lst [rd, rd]] = some (.bl true) := v_same (m := 3) (k := 35) (pl_two pr) (by omega)
  have e6 : valC (callD P 39) 19 [.lst [rd]] = some (.bl true) := v_spoilt (m := 3) (k := 35) (pl_one pr) (by omega)
  by_cases ht : t < 2
  · obtain ⟨v, d', e7, hv, hd'⟩ := v_draw (k := 38) (m := 5) hd (by omega) (by omega) (by omega)
    have e8 := v_law_orders (k := 38) (n := 1 + v) (by omega)
    have e9 := v_round_free (k := 35) (n := 1 + v) (p := p) (by omega) (by omega) hp g1 g8
    have e10 : compD (clauseB (callD P 39) (.nm 11) [.and (.op .eq [.op .ix [.vin 11, .int ((0 : Nat) : Int)], .int ((0 : Nat) : Int)]) (.op .isN [.call 13 [.var 11, .var 5]])] (.mov 11)) [11] ((allOrd (1 + v)).map dl) [some sc, some d', some (dn t), some rd, some (dl o), some (dl p), some (.str sh), some rd, some (dn (1 + v)), none, none, none] [] = some ((roundFree (1 + v) p).map dl, [some sc, some d', some (dn t), some rd, some (dl o), some (dl p), some (.str sh), some rd, some (dn (1 + v)), none, none, none]) := by
      rw [compD_some (freeB p) dl rfl (fun q hq => ?_) (by
        have := allOrd_len (n := 1 + v)
        have := pow_lim (n := 1 + v) (t := 1 + v) (by omega) (by omega)
        simp only [List.length_nil]; omega)]
      · rfl
      · obtain ⟨l1, l2, l3⟩ := allOrd_ok q hq
        simp -implicitDefEqProofs only [ev_var, ev_vin, ev_mov, ev_ref, ev_int, ev_bl, ev_non, ev_str, ev_gint, ev_op, evs_nil, evs_cons, ev_and, ev_or, ev_not, ev_ite, ev_scal, ev_tall, ev_chn, ev_comp, ev_comp2, evc_nil, evc_one, bind_nm, bind_tp2, bind_tl2, bind_tp3, bind_tp4, evSs_nil, evSs_cons, evS_asg, evS_par2, evS_par3, evS_sub, evS_sub2, evS_augs, evS_ex, evS_ret, evS_retN, evS_iff, evS_pass, evS_for, evS_whl, ev_call, ev_callk, ev_app, ev_pop, ev_popi, noRef, isRef_var, isRef_vin, isRef_mov, isRef_int, isRef_bl, isRef_str, isRef_pop, isRef_not, isRef_scal, isRef_non, isRef_op, isRef_gint, isRef_and, isRef_or, isRef_ite, isRef_call, isRef_callk, isRef_app, isRef_popi, isRef_comp, isRef_comp2, isRef_tall, isRef_chn, isRef_ref, ev_callR, eva_nil, eva_ref, eva_e, fill_nil, fill_ref, fill_e, back_nil, back_ref, back_e, fin1, fin2, fin3, Option.isNone_some, Bool.false_and, aug_lst, augn, ix3_0, sx3_0, ix3_1, sx3_1, ix3_2, sx3_2, ix5_0, sx5_0, ix5_1, sx5_1, ix5_2, sx5_2, ix5_3, sx5_3, ix5_4, sx5_4, Option.isNone_none, Bool.and_self, Bool.true_and, Bool.and_true, setAt_eq, oD0, oDs, st0, sts, wipe0, wipes, Option.map_some, Option.bind_some, cont_nx, cont_rt, cond_t, cond_f, cond_bl, not_bl, tst_bl, scal_int, scal_bl, scal_str, scal_non, valO_rt, valO_nx, wipeO_nx, wipeO_rt, wipeC_some, wipeF_some, isL_lst, l0, l1, l2, l3, l4, l5, l6, l7, l8, l9, l10, l11, l12, l13, l14, l15, l16, l17, l18, l19, l20, l21, l22, l23, l24, l25, l26, l27, l28, l29, l30, l31, l32, l33, l34, l35, l36, l37, l38, l39, l40, l41, l42, l43, l44, l45, l46, l47, l48, l49, l50, l51, l52, l53, l54, l55, l56, l57, l58, l59, l60, l61, l62, l63, l64, l65, l66, l67, l68, l69, l99, l100, l101, l131, l1000, l1001, l7919, l10007, l27183, l48271, l62089, l69621, l1000003, l1140671, l27644437, l32416187, l1103515245, l2147483587, l2147483629, l2147483647, l1000000000000000000, o_lst0, o_lst1, o_lst2, o_lst3, o_lst4, o_lst5, o_lst6, o_lst7, o_lst8, o_lst9, o_lst10, o_lst11, o_lst12, o_tup2, o_tup3, o_addn, o_neg1, o_ltn, o_len', o_gtn, o_gen, o_eqn, o_nen, o_eql, o_nel, o_eqll, o_nell, o_nenl, o_nenll, o_eqnl, o_eqnll, o_len, o_len0, o_lenD, o_drop, o_take, o_takez, arr10, arr01, arr0, arr210, arr012, arr120, arr201, o_rev, o_listOf, o_listOfT, o_tupOf, List.length_map, it_list, it_tup, it_rev, it_enum, it_zip, o_allb, o_all, o_any, o_anyb, o_sum, o_srt, o_inn, o_notin, o_innl, o_notinl, o_count, o_toInt, turnB, clauseB, clauseF, if_true, if_false, Bool.false_eq_true, Bool.not_true, Bool.not_false, o_ixd (o := q) (p := 0) (by omega)]
        by_cases c : q.getD 0 0 = 0
        · simp -implicitDefEqProofs only [ev_var, ev_vin, ev_mov, ev_ref, ev_int, ev_bl, ev_non, ev_str, ev_gint, ev_op, evs_nil, evs_cons, ev_and, ev_or, ev_not, ev_ite, ev_scal, ev_tall, ev_chn, ev_comp, ev_comp2, evc_nil, evc_one, bind_nm, bind_tp2, bind_tl2, bind_tp3, bind_tp4, evSs_nil, evSs_cons, evS_asg, evS_par2, evS_par3, evS_sub, evS_sub2, evS_augs, evS_ex, evS_ret, evS_retN, evS_iff, evS_pass, evS_for, evS_whl, ev_call, ev_callk, ev_app, ev_pop, ev_popi, noRef, isRef_var, isRef_vin, isRef_mov, isRef_int, isRef_bl, isRef_str, isRef_pop, isRef_not, isRef_scal, isRef_non, isRef_op, isRef_gint, isRef_and, isRef_or, isRef_ite, isRef_call, isRef_callk, isRef_app, isRef_popi, isRef_comp, isRef_comp2, isRef_tall, isRef_chn, isRef_ref, ev_callR, eva_nil, eva_ref, eva_e, fill_nil, fill_ref, fill_e, back_nil, back_ref, back_e, fin1, fin2, fin3, Option.isNone_some, Bool.false_and, aug_lst, augn, ix3_0, sx3_0, ix3_1, sx3_1, ix3_2, sx3_2, ix5_0, sx5_0, ix5_1, sx5_1, ix5_2, sx5_2, ix5_3, sx5_3, ix5_4, sx5_4, Option.isNone_none, Bool.and_self, Bool.true_and, Bool.and_true, setAt_eq, oD0, oDs, st0, sts, wipe0, wipes, Option.map_some, Option.bind_some, cont_nx, cont_rt, cond_t, cond_f, cond_bl, not_bl, tst_bl, scal_int, scal_bl, scal_str, scal_non, valO_rt, valO_nx, wipeO_nx, wipeO_rt, wipeC_some, wipeF_some, isL_lst, l0, l1, l2, l3, l4, l5, l6, l7, l8, l9, l10, l11, l12, l13, l14, l15, l16, l17, l18, l19, l20, l21, l22, l23, l24, l25, l26, l27, l28, l29, l30, l31, l32, l33, l34, l35, l36, l37, l38, l39, l40, l41, l42, l43, l44, l45, l46, l47, l48, l49, l50, l51, l52, l53, l54, l55, l56, l57, l58, l59, l60, l61, l62, l63, l64, l65, l66, l67, l68, l69, l99, l100, l101, l131, l1000, l1001, l7919, l10007, l27183, l48271, l62089, l69621, l1000003, l1140671, l27644437, l32416187, l1103515245, l2147483587, l2147483629, l2147483647, l1000000000000000000, o_lst0, o_lst1, o_lst2, o_lst3, o_lst4, o_lst5, o_lst6, o_lst7, o_lst8, o_lst9, o_lst10, o_lst11, o_lst12, o_tup2, o_tup3, o_addn, o_neg1, o_ltn, o_len', o_gtn, o_gen, o_eqn, o_nen, o_eql, o_nel, o_eqll, o_nell, o_nenl, o_nenll, o_eqnl, o_eqnll, o_len, o_len0, o_lenD, o_drop, o_take, o_takez, arr10, arr01, arr0, arr210, arr012, arr120, arr201, o_rev, o_listOf, o_listOfT, o_tupOf, List.length_map, it_list, it_tup, it_rev, it_enum, it_zip, o_allb, o_all, o_any, o_anyb, o_sum, o_srt, o_inn, o_notin, o_innl, o_notinl, o_count, o_toInt, turnB, clauseB, clauseF, if_true, if_false, Bool.false_eq_true, Bool.not_true, Bool.not_false, c, decide_true, v_first (k := 37) (o := q) (p := p) (by omega) lp, o_isNon, freeB]
          split <;> rfl
        · simp -implicitDefEqProofs only [ev_var, ev_vin, ev_mov, ev_ref, ev_int, ev_bl, ev_non, ev_str, ev_gint, ev_op, evs_nil, evs_cons, ev_and, ev_or, ev_not, ev_ite, ev_scal, ev_tall, ev_chn, ev_comp, ev_comp2, evc_nil, evc_one, bind_nm, bind_tp2, bind_tl2, bind_tp3, bind_tp4, evSs_nil, evSs_cons, evS_asg, evS_par2, evS_par3, evS_sub, evS_sub2, evS_augs, evS_ex, evS_ret, evS_retN, evS_iff, evS_pass, evS_for, evS_whl, ev_call, ev_callk, ev_app, ev_pop, ev_popi, noRef, isRef_var, isRef_vin, isRef_mov, isRef_int, isRef_bl, isRef_str, isRef_pop, isRef_not, isRef_scal, isRef_non, isRef_op, isRef_gint, isRef_and, isRef_or, isRef_ite, isRef_call, isRef_callk, isRef_app, isRef_popi, isRef_comp, isRef_comp2, isRef_tall, isRef_chn, isRef_ref, ev_callR, eva_nil, eva_ref, eva_e, fill_nil, fill_ref, fill_e, back_nil, back_ref, back_e, fin1, fin2, fin3, Option.isNone_some, Bool.false_and, aug_lst, augn, ix3_0, sx3_0, ix3_1, sx3_1, ix3_2, sx3_2, ix5_0, sx5_0, ix5_1, sx5_1, ix5_2, sx5_2, ix5_3, sx5_3, ix5_4, sx5_4, Option.isNone_none, Bool.and_self, Bool.true_and, Bool.and_true, setAt_eq, oD0, oDs, st0, sts, wipe0, wipes, Option.map_some, Option.bind_some, cont_nx, cont_rt, cond_t, cond_f, cond_bl, not_bl, tst_bl, scal_int, scal_bl, scal_str, scal_non, valO_rt, valO_nx, wipeO_nx, wipeO_rt, wipeC_some, wipeF_some, isL_lst, l0, l1, l2, l3, l4, l5, l6, l7, l8, l9, l10, l11, l12, l13, l14, l15, l16, l17, l18, l19, l20, l21, l22, l23, l24, l25, l26, l27, l28, l29, l30, l31, l32, l33, l34, l35, l36, l37, l38, l39, l40, l41, l42, l43, l44, l45, l46, l47, l48, l49, l50, l51, l52, l53, l54, l55, l56, l57, l58, l59, l60, l61, l62, l63, l64, l65, l66, l67, l68, l69, l99, l100, l101, l131, l1000, l1001, l7919, l10007, l27183, l48271, l62089, l69621, l1000003, l1140671, l27644437, l32416187, l1103515245, l2147483587, l2147483629, l2147483647, l1000000000000000000, o_lst0, o_lst1, o_lst2, o_lst3, o_lst4, o_lst5, o_lst6, o_lst7, o_lst8, o_lst9, o_lst10, o_lst11, o_lst12, o_tup2, o_tup3, o_addn, o_neg1, o_ltn, o_len', o_gtn, o_gen, o_eqn, o_nen, o_eql, o_nel, o_eqll, o_nell, o_nenl, o_nenll, o_eqnl, o_eqnll, o_len, o_len0, o_lenD, o_drop, o_take, o_takez, arr10, arr01, arr0, arr210, arr012, arr120, arr201, o_rev, o_listOf, o_listOfT, o_tupOf, List.length_map, it_list, it_tup, it_rev, it_enum, it_zip, o_allb, o_all, o_any, o_anyb, o_sum, o_srt, o_inn, o_notin, o_innl, o_notinl, o_count, o_toInt, turnB, clauseB, clauseF, if_true, if_false, Bool.false_eq_true, Bool.not_true, Bool.not_false, c, decide_false, freeB]
    have pf : plD 2 (dll (roundFree (1 + v) p)) = true := by
      refine pl_dll ?_ fun x hx => ?_
      · have a := allOrd_len (n := 1 + v)
        have b : (1 + v) ^ (1 + v) ≤ 5 ^ 5 := Nat.le_trans (Nat.pow_le_pow_left (by omega) _) (Nat.pow_le_pow_right (by omega) (by omega))
        have c : (roundFree (1 + v) p).length ≤ (allOrd (1 + v)).length := List.length_filter_le _ _
        have d : (5 : Nat) ^ 5 < LIM := by decide
        omega
      · have := (allOrd_ok x (List.mem_filter.mp hx).1).1
        simp only [LIM]; omega
    generalize roundFree (1 + v) p = rf at e9 e10 pf
    have e11 : valC (callD P 39) 20 [.lst [dll rf, dll rf], .lst [dll rf, dll rf]] = some (.bl true) := v_same (m := 3) (k := 35) (pl_two pf) (by omega)
    have e12 : valC (callD P 39) 19 [dll rf] = some (.bl true) := v_spoilt (m := 2) (k := 36) pf (by omega)
    refine ⟨_, d', ?_, rfl, hd'⟩
    simp -implicitDefEqProofs only [ev_var, ev_vin, ev_mov, ev_ref, ev_int, ev_bl, ev_non, ev_str, ev_gint, ev_op, evs_nil, evs_cons, ev_and, ev_or, ev_not, ev_ite, ev_scal, ev_tall, ev_chn, ev_comp, ev_comp2, evc_nil, evc_one, bind_nm, bind_tp2, bind_tl2, bind_tp3, bind_tp4, evSs_nil, evSs_cons, evS_asg, evS_par2, evS_par3, evS_sub, evS_sub2, evS_augs, evS_ex, evS_ret, evS_retN, evS_iff, evS_pass, evS_for, evS_whl, ev_call, ev_callk, ev_app, ev_pop, ev_popi, noRef, isRef_var, isRef_vin, isRef_mov, isRef_int, isRef_bl, isRef_str, isRef_pop, isRef_not, isRef_scal, isRef_non, isRef_op, isRef_gint, isRef_and, isRef_or, isRef_ite, isRef_call, isRef_callk, isRef_app, isRef_popi, isRef_comp, isRef_comp2, isRef_tall, isRef_chn, isRef_ref, ev_callR, eva_nil, eva_ref, eva_e, fill_nil, fill_ref, fill_e, back_nil, back_ref, back_e, fin1, fin2, fin3, Option.isNone_some, Bool.false_and, aug_lst, augn, ix3_0, sx3_0, ix3_1, sx3_1, ix3_2, sx3_2, ix5_0, sx5_0, ix5_1, sx5_1, ix5_2, sx5_2, ix5_3, sx5_3, ix5_4, sx5_4, Option.isNone_none, Bool.and_self, Bool.true_and, Bool.and_true, setAt_eq, oD0, oDs, st0, sts, wipe0, wipes, Option.map_some, Option.bind_some, cont_nx, cont_rt, cond_t, cond_f, cond_bl, not_bl, tst_bl, scal_int, scal_bl, scal_str, scal_non, valO_rt, valO_nx, wipeO_nx, wipeO_rt, wipeC_some, wipeF_some, isL_lst, l0, l1, l2, l3, l4, l5, l6, l7, l8, l9, l10, l11, l12, l13, l14, l15, l16, l17, l18, l19, l20, l21, l22, l23, l24, l25, l26, l27, l28, l29, l30, l31, l32, l33, l34, l35, l36, l37, l38, l39, l40, l41, l42, l43, l44, l45, l46, l47, l48, l49, l50, l51, l52, l53, l54, l55, l56, l57, l58, l59, l60, l61, l62, l63, l64, l65, l66, l67, l68, l69, l99, l100, l101, l131, l1000, l1001, l7919, l10007, l27183, l48271, l62089, l69621, l1000003, l1140671, l27644437, l32416187, l1103515245, l2147483587, l2147483629, l2147483647, l1000000000000000000, o_lst0, o_lst1, o_lst2, o_lst3, o_lst4, o_lst5, o_lst6, o_lst7, o_lst8, o_lst9, o_lst10, o_lst11, o_lst12, o_tup2, o_tup3, o_addn, o_neg1, o_ltn, o_len', o_gtn, o_gen, o_eqn, o_nen, o_eql, o_nel, o_eqll, o_nell, o_nenl, o_nenll, o_eqnl, o_eqnll, o_len, o_len0, o_lenD, o_drop, o_take, o_takez, arr10, arr01, arr0, arr210, arr012, arr120, arr201, o_rev, o_listOf, o_listOfT, o_tupOf, List.length_map, it_list, it_tup, it_rev, it_enum, it_zip, o_allb, o_all, o_any, o_anyb, o_sum, o_srt, o_inn, o_notin, o_innl, o_notinl, o_count, o_toInt, turnB, clauseB, clauseF, if_true, if_false, Bool.false_eq_true, Bool.not_true, Bool.not_false, e1, e2, e3, e4, e5, e6, ht, decide_true, e7, e8, e9, e10, e11, e12]
  · refine ⟨_, d, ?_, rfl, hd.mono (by omega)⟩
    simp -implicitDefEqProofs only [ev_var, ev_vin, ev_mov, ev_ref, ev_int, ev_bl, ev_non, ev_str, ev_gint, ev_op, evs_nil, evs_cons, ev_and, ev_or, ev_not, ev_ite, ev_scal, ev_tall, ev_chn, ev_comp, ev_comp2, evc_nil, evc_one, bind_nm, bind_tp2, bind_tl2, bind_tp3, bind_tp4, evSs_nil, evSs_cons, evS_asg, evS_par2, evS_par3, evS_sub, evS_sub2, evS_augs, evS_ex, evS_ret, evS_retN, evS_iff, evS_pass, evS_for, evS_whl, ev_call, ev_callk, ev_app, ev_pop, ev_popi, noRef, isRef_var, isRef_vin, isRef_mov, isRef_int, isRef_bl, isRef_str, isRef_pop, isRef_not, isRef_scal, isRef_non, isRef_op, isRef_gint, isRef_and, isRef_or, isRef_ite, isRef_call, isRef_callk, isRef_app, isRef_popi, isRef_comp, isRef_comp2, isRef_tall, isRef_chn, isRef_ref, ev_callR, eva_nil, eva_ref, eva_e, fill_nil, fill_ref, fill_e, back_nil, back_ref, back_e, fin1, fin2, fin3, Option.isNone_some, Bool.false_and, aug_lst, augn, ix3_0, sx3_0, ix3_1, sx3_1, ix3_2, sx3_2, ix5_0, sx5_0, ix5_1, sx5_1, ix5_2, sx5_2, ix5_3, sx5_3, ix5_4, sx5_4, Option.isNone_none, Bool.and_self, Bool.true_and, Bool.and_true, setAt_eq, oD0, oDs, st0, sts, wipe0, wipes, Option.map_some, Option.bind_some, cont_nx, cont_rt, cond_t, cond_f, cond_bl, not_bl, tst_bl, scal_int, scal_bl, scal_str, scal_non, valO_rt, valO_nx, wipeO_nx, wipeO_rt, wipeC_some, wipeF_some, isL_lst, l0, l1, l2, l3, l4, l5, l6, l7, l8, l9, l10, l11, l12, l13, l14, l15, l16, l17, l18, l19, l20, l21, l22, l23, l24, l25, l26, l27, l28, l29, l30, l31, l32, l33, l34, l35, l36, l37, l38, l39, l40, l41, l42, l43, l44, l45, l46, l47, l48, l49, l50, l51, l52, l53, l54, l55, l56, l57, l58, l59, l60, l61, l62, l63, l64, l65, l66, l67, l68, l69, l99, l100, l101, l131, l1000, l1001, l7919, l10007, l27183, l48271, l62089, l69621, l1000003, l1140671, l27644437, l32416187, l1103515245, l2147483587, l2147483629, l2147483647, l1000000000000000000, o_lst0, o_lst1, o_lst2, o_lst3, o_lst4, o_lst5, o_lst6, o_lst7, o_lst8, o_lst9, o_lst10, o_lst11, o_lst12, o_tup2, o_tup3, o_addn, o_neg1, o_ltn, o_len', o_gtn, o_gen, o_eqn, o_nen, o_eql, o_nel, o_eqll, o_nell, o_nenl, o_nenll, o_eqnl, o_eqnll, o_len, o_len0, o_lenD, o_drop, o_take, o_takez, arr10, arr01, arr0, arr210, arr012, arr120, arr201, o_rev, o_listOf, o_listOfT, o_tupOf, List.length_map, it_list, it_tup, it_rev, it_enum, it_zip, o_allb, o_all, o_any, o_anyb, o_sum, o_srt, o_inn, o_notin, o_innl, o_notinl, o_count, o_toInt, turnB, clauseB, clauseF, if_true, if_false, Bool.false_eq_true, Bool.not_true, Bool.not_false, e1, e2, e3, e4, e5, e6, ht, decide_false]
end PL

namespace PL
open PySem OH
theorem ord_one : IsOrd 1 [0] := ⟨rfl, by simp, by simp⟩
theorem ord_two : IsOrd 2 [1, 0] := ⟨rfl, by simp, by simp⟩
theorem ord_p4 : IsOrd 4 [0, 2, 1, 3] := ⟨rfl, by simp, by simp⟩
theorem ord_i4 : IsOrd 4 [0, 1, 2, 3] := ⟨rfl, by simp, by simp⟩
theorem rf1 : (roundFree 5 [0, 2, 1, 3]).length = 13 := by decide +kernel
theorem rf2 : roundFree 2 [0] = [] := by decide +kernel
theorem rf3 : roundFree 3 [0, 1, 2, 3] = [[0, 1, 2], [0, 2, 1]] := by decide +kernel
theorem v_law {ns : List Int} (hn : ns.length ≤ 63) : valC (callD P 40) 23 [.fzl (ns.map D.int)] = some (.bl true) := by
  rw [vc (k := 39) (F := f23) rfl rfl]
  obtain ⟨d0, e0, hd0⟩ := v_purse (k := 38) hn
  have i9 : itD .r1 [.int ((9 : Nat) : Int)] = some ((List.range 9).map dn) := it_r1 (by simp only [LIM]; omega)
  simp -implicitDefEqProofs only [f23, startD, List.map_cons, List.map_nil, List.length_cons, List.length_nil, List.replicate, List.cons_append, List.nil_append, Nat.sub_self, Nat.sub_zero, Nat.zero_add, Nat.reduceAdd, Nat.reduceSub, ev_var, ev_vin, ev_mov, ev_ref, ev_int, ev_bl, ev_non, ev_str, ev_gint, ev_op, evs_nil, evs_cons, ev_and, ev_or, ev_not, ev_ite, ev_scal, ev_tall, ev_chn, ev_comp, ev_comp2, evc_nil, evc_one, bind_nm, bind_tp2, bind_tl2, bind_tp3, bind_tp4, evSs_nil, evSs_cons, evS_asg, evS_par2, evS_par3, evS_sub, evS_sub2, evS_augs, evS_ex, evS_ret, evS_retN, evS_iff, evS_pass, evS_for, evS_whl, ev_call, ev_callk, ev_app, ev_pop, ev_popi, noRef, isRef_var, isRef_vin, isRef_mov, isRef_int, isRef_bl, isRef_str, isRef_pop, isRef_not, isRef_scal, isRef_non, isRef_op, isRef_gint, isRef_and, isRef_or, isRef_ite, isRef_call, isRef_callk, isRef_app, isRef_popi, isRef_comp, isRef_comp2, isRef_tall, isRef_chn, isRef_ref, ev_callR, eva_nil, eva_ref, eva_e, fill_nil, fill_ref, fill_e, back_nil, back_ref, back_e, fin1, fin2, fin3, Option.isNone_some, Bool.false_and, aug_lst, augn, ix3_0, sx3_0, ix3_1, sx3_1, ix3_2, sx3_2, ix5_0, sx5_0, ix5_1, sx5_1, ix5_2, sx5_2, ix5_3, sx5_3, ix5_4, sx5_4, Option.isNone_none, Bool.and_self, Bool.true_and, Bool.and_true, setAt_eq, oD0, oDs, st0, sts, wipe0, wipes, Option.map_some, Option.bind_some, cont_nx, cont_rt, cond_t, cond_f, cond_bl, not_bl, tst_bl, scal_int, scal_bl, scal_str, scal_non, valO_rt, valO_nx, wipeO_nx, wipeO_rt, wipeC_some, wipeF_some, isL_lst, l0, l1, l2, l3, l4, l5, l6, l7, l8, l9, l10, l11, l12, l13, l14, l15, l16, l17, l18, l19, l20, l21, l22, l23, l24, l25, l26, l27, l28, l29, l30, l31, l32, l33, l34, l35, l36, l37, l38, l39, l40, l41, l42, l43, l44, l45, l46, l47, l48, l49, l50, l51, l52, l53, l54, l55, l56, l57, l58, l59, l60, l61, l62, l63, l64, l65, l66, l67, l68, l69, l99, l100, l101, l131, l1000, l1001, l7919, l10007, l27183, l48271, l62089, l69621, l1000003, l1140671, l27644437, l32416187, l1103515245, l2147483587, l2147483629, l2147483647, l1000000000000000000, o_lst0, o_lst1, o_lst2, o_lst3, o_lst4, o_lst5, o_lst6, o_lst7, o_lst8, o_lst9, o_lst10, o_lst11, o_lst12, o_tup2, o_tup3, o_addn, o_neg1, o_ltn, o_len', o_gtn, o_gen, o_eqn, o_nen, o_eql, o_nel, o_eqll, o_nell, o_nenl, o_nenll, o_eqnl, o_eqnll, o_len, o_len0, o_lenD, o_drop, o_take, o_takez, arr10, arr01, arr0, arr210, arr012, arr120, arr201, o_rev, o_listOf, o_listOfT, o_tupOf, List.length_map, it_list, it_tup, it_rev, it_enum, it_zip, o_allb, o_all, o_any, o_anyb, o_sum, o_srt, o_inn, o_notin, o_innl, o_notinl, o_count, o_toInt, turnB, clauseB, clauseF, if_true, if_false, Bool.false_eq_true, Bool.not_true, Bool.not_false, e0, i9]
  generalize hsc : D.fzl (ns.map D.int) = sc
  generalize hB : turnB (callD P 39) (.nm 2) _ = B
  have H := fun b step => forD_all (b := b) (kill := [2, 3, 4, 5, 6, 7, 8, 9, 10, 11]) (ds := (List.range 9).map dn) (ρ := [some sc, some d0, none, none, none, none, none, none, none, none, none, none])
    (fun m ρ => ∃ d, ρ = [some sc, some d, none, none, none, none, none, none, none, none, none, none] ∧ IsPu (100 * m) d) ⟨d0, rfl, hd0⟩ step (fun m ρ I => by obtain ⟨d, rfl, _⟩ := I; rfl)
  obtain ⟨ρ', e, I⟩ := H B (fun m x ρ hx I => by
    rw [← hB]
    obtain ⟨d, rfl, hd⟩ := I
    have hm : m < 9 := by
      have := (List.getElem?_eq_some_iff.mp hx).1
      simpa using this
    have hxm : x = dn m := by
      rw [List.getElem?_map, List.getElem?_range hm] at hx
      exact (Option.some.inj hx).symm
    subst hxm
    obtain ⟨v1, d1, e1, hv1, hd1⟩ := v_draw (k := 38) (m := 7) hd (by omega) (by omega) (by omega)
    obtain ⟨o1, d2, e2, ho1, hd2⟩ := v_order (k := 36) (n := 1 + v1) hd1 (by omega) (by omega)
    obtain ⟨v2, d3, e3, hv2, hd3⟩ := v_draw (k := 38) (m := 4) hd2 (by omega) (by omega) (by omega)
    obtain ⟨o2, d4, e4, ho2, hd4⟩ := v_order (k := 36) (n := 1 + v2) hd3 (by omega) (by omega)
    by_cases hm0 : m = 0
    · obtain ⟨ρ', d', er, hρ, hd'⟩ := v_rest (sc := sc) (t := m) ord_one (by omega) (by omega) ord_two (by omega) (by omega) hd4 (by omega)
      refine ⟨ρ', ?_, d', hρ, hd'.mono (by omega)⟩
      refine Eq.trans ?_ er
      have qa : D.lst [D.int ((0 : Nat) : Int)] = dl [0] := rfl
      have qb : D.lst [D.int ((1 : Nat) : Int), D.int ((0 : Nat) : Int)] = dl [1, 0] := rfl
      simp -implicitDefEqProofs only [ev_var, ev_vin, ev_mov, ev_ref, ev_int, ev_bl, ev_non, ev_str, ev_gint, ev_op, evs_nil, evs_cons, ev_and, ev_or, ev_not, ev_ite, ev_scal, ev_tall, ev_chn, ev_comp, ev_comp2, evc_nil, evc_one, bind_nm, bind_tp2, bind_tl2, bind_tp3, bind_tp4, evSs_nil, evSs_cons, evS_asg, evS_par2, evS_par3, evS_sub, evS_sub2, evS_augs, evS_ex, evS_ret, evS_retN, evS_iff, evS_pass, evS_for, evS_whl, ev_call, ev_callk, ev_app, ev_pop, ev_popi, noRef, isRef_var, isRef_vin, isRef_mov, isRef_int, isRef_bl, isRef_str, isRef_pop, isRef_not, isRef_scal, isRef_non, isRef_op, isRef_gint, isRef_and, isRef_or, isRef_ite, isRef_call, isRef_callk, isRef_app, isRef_popi, isRef_comp, isRef_comp2, isRef_tall, isRef_chn, isRef_ref, ev_callR, eva_nil, eva_ref, eva_e, fill_nil, fill_ref, fill_e, back_nil, back_ref, back_e, fin1, fin2, fin3, Option.isNone_some, Bool.false_and, aug_lst, augn, ix3_0, sx3_0, ix3_1, sx3_1, ix3_2, sx3_2, ix5_0, sx5_0, ix5_1, sx5_1, ix5_2, sx5_2, ix5_3, sx5_3, ix5_4, sx5_4, Option.isNone_none, Bool.and_self, Bool.true_and, Bool.and_true, setAt_eq, oD0, oDs, st0, sts, wipe0, wipes, Option.map_some, Option.bind_some, cont_nx, cont_rt, cond_t, cond_f, cond_bl, not_bl, tst_bl, scal_int, scal_bl, scal_str, scal_non, valO_rt, valO_nx, wipeO_nx, wipeO_rt, wipeC_some, wipeF_some, isL_lst, l0, l1, l2, l3, l4, l5, l6, l7, l8, l9, l10, l11, l12, l13, l14, l15, l16, l17, l18, l19, l20, l21, l22, l23, l24, l25, l26, l27, l28, l29, l30, l31, l32, l33, l34, l35, l36, l37, l38, l39, l40, l41, l42, l43, l44, l45, l46, l47, l48, l49, l50, l51, l52, l53, l54, l55, l56, l57, l58, l59, l60, l61, l62, l63, l64, l65, l66, l67, l68, l69, l99, l100, l101, l131, l1000, l1001, l7919, l10007, l27183, l48271, l62089, l69621, l1000003, l1140671, l27644437, l32416187, l1103515245, l2147483587, l2147483629, l2147483647, l1000000000000000000, o_lst0, o_lst1, o_lst2, o_lst3, o_lst4, o_lst5, o_lst6, o_lst7, o_lst8, o_lst9, o_lst10, o_lst11, o_lst12, o_tup2, o_tup3, o_addn, o_neg1, o_ltn, o_len', o_gtn, o_gen, o_eqn, o_nen, o_eql, o_nel, o_eqll, o_nell, o_nenl, o_nenll, o_eqnl, o_eqnll, o_len, o_len0, o_lenD, o_drop, o_take, o_takez, arr10, arr01, arr0, arr210, arr012, arr120, arr201, o_rev, o_listOf, o_listOfT, o_tupOf, List.length_map, it_list, it_tup, it_rev, it_enum, it_zip, o_allb, o_all, o_any, o_anyb, o_sum, o_srt, o_inn, o_notin, o_innl, o_notinl, o_count, o_toInt, turnB, clauseB, clauseF, if_true, if_false, Bool.false_eq_true, Bool.not_true, Bool.not_false, e1, e2, e3, e4, hm0, decide_true, qa, qb]
    · obtain ⟨ρ', d', er, hρ, hd'⟩ := v_rest (sc := sc) (t := m) ho1 (by omega) (by omega) ho2 (by omega) (by omega) hd4 (by omega)
      refine ⟨ρ', ?_, d', hρ, hd'.mono (by omega)⟩
      refine Eq.trans ?_ er
      simp -implicitDefEqProofs only [ev_var, ev_vin, ev_mov, ev_ref, ev_int, ev_bl, ev_non, ev_str, ev_gint, ev_op, evs_nil, evs_cons, ev_and, ev_or, ev_not, ev_ite, ev_scal, ev_tall, ev_chn, ev_comp, ev_comp2, evc_nil, evc_one, bind_nm, bind_tp2, bind_tl2, bind_tp3, bind_tp4, evSs_nil, evSs_cons, evS_asg, evS_par2, evS_par3, evS_sub, evS_sub2, evS_augs, evS_ex, evS_ret, evS_retN, evS_iff, evS_pass, evS_for, evS_whl, ev_call, ev_callk, ev_app, ev_pop, ev_popi, noRef, isRef_var, isRef_vin, isRef_mov, isRef_int, isRef_bl, isRef_str, isRef_pop, isRef_not, isRef_scal, isRef_non, isRef_op, isRef_gint, isRef_and, isRef_or, isRef_ite, isRef_call, isRef_callk, isRef_app, isRef_popi, isRef_comp, isRef_comp2, isRef_tall, isRef_chn, isRef_ref, ev_callR, eva_nil, eva_ref, eva_e, fill_nil, fill_ref, fill_e, back_nil, back_ref, back_e, fin1, fin2, fin3, Option.isNone_some, Bool.false_and, aug_lst, augn, ix3_0, sx3_0, ix3_1, sx3_1, ix3_2, sx3_2, ix5_0, sx5_0, ix5_1, sx5_1, ix5_2, sx5_2, ix5_3, sx5_3, ix5_4, sx5_4, Option.isNone_none, Bool.and_self, Bool.true_and, Bool.and_true, setAt_eq, oD0, oDs, st0, sts, wipe0, wipes, Option.map_some, Option.bind_some, cont_nx, cont_rt, cond_t, cond_f, cond_bl, not_bl, tst_bl, scal_int, scal_bl, scal_str, scal_non, valO_rt, valO_nx, wipeO_nx, wipeO_rt, wipeC_some, wipeF_some, isL_lst, l0, l1, l2, l3, l4, l5, l6, l7, l8, l9, l10, l11, l12, l13, l14, l15, l16, l17, l18, l19, l20, l21, l22, l23, l24, l25, l26, l27, l28, l29, l30, l31, l32, l33, l34, l35, l36, l37, l38, l39, l40, l41, l42, l43, l44, l45, l46, l47, l48, l49, l50, l51, l52, l53, l54, l55, l56, l57, l58, l59, l60, l61, l62, l63, l64, l65, l66, l67, l68, l69, l99, l100, l101, l131, l1000, l1001, l7919, l10007, l27183, l48271, l62089, l69621, l1000003, l1140671, l27644437, l32416187, l1103515245, l2147483587, l2147483629, l2147483647, l1000000000000000000, o_lst0, o_lst1, o_lst2, o_lst3, o_lst4, o_lst5, o_lst6, o_lst7, o_lst8, o_lst9, o_lst10, o_lst11, o_lst12, o_tup2, o_tup3, o_addn, o_neg1, o_ltn, o_len', o_gtn, o_gen, o_eqn, o_nen, o_eql, o_nel, o_eqll, o_nell, o_nenl, o_nenll, o_eqnl, o_eqnll, o_len, o_len0, o_lenD, o_drop, o_take, o_takez, arr10, arr01, arr0, arr210, arr012, arr120, arr201, o_rev, o_listOf, o_listOfT, o_tupOf, List.length_map, it_list, it_tup, it_rev, it_enum, it_zip, o_allb, o_all, o_any, o_anyb, o_sum, o_srt, o_inn, o_notin, o_innl, o_notinl, o_count, o_toInt, turnB, clauseB, clauseF, if_true, if_false, Bool.false_eq_true, Bool.not_true, Bool.not_false, e1, e2, e3, e4, hm0, decide_false])
  obtain ⟨d, rfl, _⟩ := I
  rw [e]
  have f1 : valC (callD P 39) 12 [.int ((5 : Nat) : Int), .lst [.int ((0 : Nat) : Int), .int ((2 : Nat) : Int), .int ((1 : Nat) : Int), .int ((3 : Nat) : Int)]] = some (dll (roundFree 5 [0, 2, 1, 3])) := v_round_free (k := 35) (n := 5) (p := [0, 2, 1, 3]) (by omega) (by omega) ord_p4 (by omega) (by omega)
  have f2 : valC (callD P 39) 12 [.int ((2 : Nat) : Int), .lst [.int ((0 : Nat) : Int)]] = some (dll (roundFree 2 [0])) := v_round_free (k := 35) (n := 2) (p := [0]) (by omega) (by omega) ord_one (by omega) (by omega)
  have f3 : valC (callD P 39) 12 [.int ((3 : Nat) : Int), .lst [.int ((0 : Nat) : Int), .int ((1 : Nat) : Int), .int ((2 : Nat) : Int), .int ((3 : Nat) : Int)]] = some (dll (roundFree 3 [0, 1, 2, 3])) := v_round_free (k := 35) (n := 3) (p := [0, 1, 2, 3]) (by omega) (by omega) ord_i4 (by omega) (by omega)
  have f4 : valC (callD P 39) 20 [.lst [dn 13, dll [], dll [[0, 1, 2], [0, 2, 1]]], .lst [dn 13, dll [], dll [[0, 1, 2], [0, 2, 1]]]] = some (.bl true) := v_same (m := 3) (k := 35) (d := .lst [dn 13, dll [], dll [[0, 1, 2], [0, 2, 1]]]) (by decide +kernel) (by omega)
  have f5 : valC (callD P 39) 20 [.lst [.int ((13 : Nat) : Int), dll [], dll [[0, 1, 2], [0, 2, 1]]], .lst [.int ((13 : Nat) : Int), .lst [], .lst [.lst [.int ((0 : Nat) : Int), .int ((1 : Nat) : Int), .int ((2 : Nat) : Int)], .lst [.int ((0 : Nat) : Int), .int ((2 : Nat) : Int), .int ((1 : Nat) : Int)]]]] = some (.bl true) := f4
  simp -implicitDefEqProofs only [ev_var, ev_vin, ev_mov, ev_ref, ev_int, ev_bl, ev_non, ev_str, ev_gint, ev_op, evs_nil, evs_cons, ev_and, ev_or, ev_not, ev_ite, ev_scal, ev_tall, ev_chn, ev_comp, ev_comp2, evc_nil, evc_one, bind_nm, bind_tp2, bind_tl2, bind_tp3, bind_tp4, evSs_nil, evSs_cons, evS_asg, evS_par2, evS_par3, evS_sub, evS_sub2, evS_augs, evS_ex, evS_ret, evS_retN, evS_iff, evS_pass, evS_for, evS_whl, ev_call, ev_callk, ev_app, ev_pop, ev_popi, noRef, isRef_var, isRef_vin, isRef_mov, isRef_int, isRef_bl, isRef_str, isRef_pop, isRef_not, isRef_scal, isRef_non, isRef_op, isRef_gint, isRef_and, isRef_or, isRef_ite, isRef_call, isRef_callk, isRef_app, isRef_popi, isRef_comp, isRef_comp2, isRef_tall, isRef_chn, isRef_ref, ev_callR, eva_nil, eva_ref, eva_e, fill_nil, fill_ref, fill_e, back_nil, back_ref, back_e, fin1, fin2, fin3, Option.isNone_some, Bool.false_and, aug_lst, augn, ix3_0, sx3_0, ix3_1, sx3_1, ix3_2, sx3_2, ix5_0, sx5_0, ix5_1, sx5_1, ix5_2, sx5_2, ix5_3, sx5_3, ix5_4, sx5_4, Option.isNone_none, Bool.and_self, Bool.true_and, Bool.and_true, setAt_eq, oD0, oDs, st0, sts, wipe0, wipes, Option.map_some, Option.bind_some, cont_nx, cont_rt, cond_t, cond_f, cond_bl, not_bl, tst_bl, scal_int, scal_bl, scal_str, scal_non, valO_rt, valO_nx, wipeO_nx, wipeO_rt, wipeC_some, wipeF_some, isL_lst, l0, l1, l2, l3, l4, l5, l6, l7, l8, l9, l10, l11, l12, l13, l14, l15, l16, l17, l18, l19, l20, l21, l22, l23, l24, l25, l26, l27, l28, l29, l30, l31, l32, l33, l34, l35, l36, l37, l38, l39, l40, l41, l42, l43, l44, l45, l46, l47, l48, l49, l50, l51, l52, l53, l54, l55, l56, l57, l58, l59, l60, l61, l62, l63, l64, l65, l66, l67, l68, l69, l99, l100, l101, l131, l1000, l1001, l7919, l10007, l27183, l48271, l62089, l69621, l1000003, l1140671, l27644437, l32416187, l1103515245, l2147483587, l2147483629, l2147483647, l1000000000000000000, o_lst0, o_lst1, o_lst2, o_lst3, o_lst4, o_lst5, o_lst6, o_lst7, o_lst8, o_lst9, o_lst10, o_lst11, o_lst12, o_tup2, o_tup3, o_addn, o_neg1, o_ltn, o_len', o_gtn, o_gen, o_eqn, o_nen, o_eql, o_nel, o_eqll, o_nell, o_nenl, o_nenll, o_eqnl, o_eqnll, o_len, o_len0, o_lenD, o_drop, o_take, o_takez, arr10, arr01, arr0, arr210, arr012, arr120, arr201, o_rev, o_listOf, o_listOfT, o_tupOf, List.length_map, it_list, it_tup, it_rev, it_enum, it_zip, o_allb, o_all, o_any, o_anyb, o_sum, o_srt, o_inn, o_notin, o_innl, o_notinl, o_count, o_toInt, turnB, clauseB, clauseF, if_true, if_false, Bool.false_eq_true, Bool.not_true, Bool.not_false, f1, f2, f3, rf1, rf2, rf3, f5]
theorem law_true (ns : List Int) (hn : ns.length ≤ 63) : ∃ ds', callD (prgOf OH.ds) 40 23 [.fzl (ns.map D.int)] = some (.bl true, ds') := by
  have h := v_law hn
  unfold valC at h
  obtain ⟨q, e, hq⟩ := Option.map_eq_some_iff.mp h
  obtain ⟨d, ds'⟩ := q
  have hd : d = .bl true := hq
  rw [hd] at e
  exact ⟨ds', e⟩
end PL

namespace OH
open PySem L2
theorem c0 : chkD ds G d0 = true := by decide +kernel
theorem c1 : chkD ds G d1 = true := by decide +kernel
theorem c2 : chkD ds G d2 = true := by decide +kernel
theorem c3 : chkD ds G d3 = true := by decide +kernel
theorem c4 : chkD ds G d4 = true := by decide +kernel
theorem c5 : chkD ds G d5 = true := by decide +kernel
theorem c6 : chkD ds G d6 = true := by decide +kernel
theorem c7 : chkD ds G d7 = true := by decide +kernel
theorem c8 : chkD ds G d8 = true := by decide +kernel
theorem c9 : chkD ds G d9 = true := by decide +kernel
theorem c10 : chkD ds G d10 = true := by decide +kernel
theorem c11 : chkD ds G d11 = true := by decide +kernel
theorem c12 : chkD ds G d12 = true := by decide +kernel
theorem c13 : chkD ds G d13 = true := by decide +kernel
theorem c14 : chkD ds G d14 = true := by decide +kernel
theorem c15 : chkD ds G d15 = true := by decide +kernel
theorem c16 : chkD ds G d16 = true := by decide +kernel
theorem c17 : chkD ds G d17 = true := by decide +kernel
theorem c18 : chkD ds G d18 = true := by decide +kernel
theorem c19 : chkD ds G d19 = true := by decide +kernel
theorem c20 : chkD ds G d20 = true := by decide +kernel
theorem c21 : chkD ds G d21 = true := by decide +kernel
theorem c22 : chkD ds G d22 = true := by decide +kernel
theorem c23 : chkD ds G d23 = true := by decide +kernel
theorem chk : ∀ d ∈ ds, chkD ds G d = true := by
  intro d h
  simp only [ds, List.mem_cons, List.not_mem_nil, or_false] at h
  rcases h with rfl | rfl | rfl | rfl | rfl | rfl | rfl | rfl | rfl | rfl | rfl | rfl | rfl | rfl | rfl | rfl | rfl | rfl | rfl | rfl | rfl | rfl | rfl | rfl
  · exact c0
  · exact c1
  · exact c2
  · exact c3
  · exact c4
  · exact c5
  · exact c6
  · exact c7
  · exact c8
  · exact c9
  · exact c10
  · exact c11
  · exact c12
  · exact c13
  · exact c14
  · exact c15
  · exact c16
  · exact c17
  · exact c18
  · exact c19
  · exact c20
  · exact c21
  · exact c22
  · exact c23
theorem b0 : BindsD d0 where
  b := fun _ _ _ _ _ _ us hl => match us, hl with | [_], _ => rfl
  kw := fun ks hk => nomatch hk
theorem b1 : BindsD d1 where
  b := fun _ _ _ _ _ _ us hl => match us, hl with | [_], _ => rfl
  kw := fun ks hk => nomatch hk
theorem b2 : BindsD d2 where
  b := fun _ _ _ _ _ _ us hl => match us, hl with | [_], _ => rfl
  kw := fun ks hk => nomatch hk
theorem b3 : BindsD d3 where
  b := fun _ _ _ _ _ _ us hl => match us, hl with | [_], _ => rfl
  kw := fun ks hk => nomatch hk
theorem b4 : BindsD d4 where
  b := fun _ _ _ _ _ _ us hl => match us, hl with | [_], _ => rfl
  kw := fun ks hk => nomatch hk
theorem b5 : BindsD d5 where
  b := fun _ _ _ _ _ _ us hl => match us, hl with | [_], _ => rfl
  kw := fun ks hk => nomatch hk
theorem b6 : BindsD d6 where
  b := fun _ _ _ _ _ _ us hl => match us, hl with | [_, _], _ => rfl
  kw := fun ks hk => nomatch hk
theorem b7 : BindsD d7 where
  b := fun _ _ _ _ _ _ us hl => match us, hl with | [_, _], _ => rfl
  kw := fun ks hk => nomatch hk
theorem b8 : BindsD d8 where
  b := fun _ _ _ _ _ _ us hl => match us, hl with | [_], _ => rfl
  kw := fun ks hk => nomatch hk
theorem b9 : BindsD d9 where
  b := fun _ _ _ _ _ _ us hl => match us, hl with | [_, _], _ => rfl
  kw := fun ks hk => nomatch hk
theorem b10 : BindsD d10 where
  b := fun _ _ _ _ _ _ us hl => match us, hl with | [_, _], _ => rfl
  kw := fun ks hk => nomatch hk
theorem b11 : BindsD d11 where
  b := fun _ _ _ _ _ _ us hl => match us, hl with | [_, _], _ => rfl
  kw := by
    intro ks hk
    simp only [d11, List.mem_cons, List.not_mem_nil, or_false] at hk
    rcases hk with rfl
    · exact fun _ _ _ _ _ _ ws hl => match ws, hl with | [_, _], _ => rfl
theorem b12 : BindsD d12 where
  b := fun _ _ _ _ _ _ us hl => match us, hl with | [_, _], _ => rfl
  kw := by
    intro ks hk
    simp only [d12, List.mem_cons, List.not_mem_nil, or_false] at hk
    rcases hk with rfl
    · exact fun _ _ _ _ _ _ ws hl => match ws, hl with | [_, _], _ => rfl
theorem b13 : BindsD d13 where
  b := fun _ _ _ _ _ _ us hl => match us, hl with | [_, _], _ => rfl
  kw := fun ks hk => nomatch hk
theorem b14 : BindsD d14 where
  b := fun _ _ _ _ _ _ us hl => match us, hl with | [_, _], _ => rfl
  kw := fun ks hk => nomatch hk
theorem b15 : BindsD d15 where
  b := fun _ _ _ _ _ _ us hl => match us, hl with | [_], _ => rfl
  kw := fun ks hk => nomatch hk
theorem b16 : BindsD d16 where
  b := fun _ _ _ _ _ _ us hl => match us, hl with | [_, _], _ => rfl
  kw := fun ks hk => nomatch hk
theorem b17 : BindsD d17 where
  b := fun _ _ _ _ _ _ us hl => match us, hl with | [_], _ => rfl
  kw := fun ks hk => nomatch hk
theorem b18 : BindsD d18 where
  b := fun _ _ _ _ _ _ us hl => match us, hl with | [_, _], _ => rfl
  kw := fun ks hk => nomatch hk
theorem b19 : BindsD d19 where
  b := fun _ _ _ _ _ _ us hl => match us, hl with | [_], _ => rfl
  kw := fun ks hk => nomatch hk
theorem b20 : BindsD d20 where
  b := fun _ _ _ _ _ _ us hl => match us, hl with | [_, _], _ => rfl
  kw := fun ks hk => nomatch hk
theorem b21 : BindsD d21 where
  b := fun _ _ _ _ _ _ us hl => match us, hl with | [_], _ => rfl
  kw := fun ks hk => nomatch hk
theorem b22 : BindsD d22 where
  b := fun _ _ _ _ _ _ us hl => match us, hl with | [_, _], _ => rfl
  kw := fun ks hk => nomatch hk
theorem b23 : BindsD d23 where
  b := fun _ _ _ _ _ _ us hl => match us, hl with | [_], _ => rfl
  kw := fun ks hk => nomatch hk
theorem bnd : ∀ d ∈ ds, BindsD d := by
  intro d h
  simp only [ds, List.mem_cons, List.not_mem_nil, or_false] at h
  rcases h with rfl | rfl | rfl | rfl | rfl | rfl | rfl | rfl | rfl | rfl | rfl | rfl | rfl | rfl | rfl | rfl | rfl | rfl | rfl | rfl | rfl | rfl | rfl | rfl
  · exact b0
  · exact b1
  · exact b2
  · exact b3
  · exact b4
  · exact b5
  · exact b6
  · exact b7
  · exact b8
  · exact b9
  · exact b10
  · exact b11
  · exact b12
  · exact b13
  · exact b14
  · exact b15
  · exact b16
  · exact b17
  · exact b18
  · exact b19
  · exact b20
  · exact b21
  · exact b22
  · exact b23
def names0 : List Str := ["OrderError", "InvalidOrder", "InvalidPattern", "InvalidNumber", "TooMany", "MOST_SIZE", "is_whole", "is_order_by", "check_order", "check_pattern", "check_size", "pattern_by", "at_lot", "lots_sized", "all_orders", "MOST_LISTED", "turned_by", "round_lot", "held_in_round", "round_free", "_law_first", "_law_order", "_law_pattern", "_law_lots_sized", "_law_orders", "_law_shuffled", "_law_spoilt", "_law_same", "_law_purse", "_law_draw"]
def loose : List Str := names0
abbrev R : PySem.W.OpenRow := PySem.W.OpenLaw.row PySem.Challenge.rw_ordersheld_k92_whole_patterns_in_rounds
abbrev hk : PySem.W.Hook := He.hookD 4 (facts ds G) (ds.map defD)
def ob (s : PySem.W.SharedT) : He.AlD := He.obsDG 4 (facts ds G) (ds.map defD) (HandSHeadRun.getT s)
theorem ob_eq (s : PySem.W.SharedT) : ob s = hk.obs s.abs := He.obsDG_eq (HandSHeadRun.getT_eq s)
theorem run (w : World) : HandSHeadRun.RunEq R (PySem.W.view R.prog [34]) hk ob 3000 loose w := by
  intro os
  kernel_rfl
theorem law_true : ∀ ns : List Int, ns.length ≤ 63 → ∃ ds', callD (prgOf ds) 40 23 [.fzl (ns.map D.int)] = some (.bl true, ds') := fun ns h => PL.law_true ns h
end OH
open PySem PySem.W PySem.Calls PyProof.Rows
theorem PySem.Challenge.cw_ordersheld_k92_whole_patterns_in_rounds_holds : PySem.Challenge.rw_ordersheld_k92_whole_patterns_in_rounds.Holds := by
  w_on; o_law
  refine HandSHeadRun.head_any (r := OpenLaw.row PySem.Challenge.rw_ordersheld_k92_whole_patterns_in_rounds) (q := view (OpenLaw.row PySem.Challenge.rw_ordersheld_k92_whole_patterns_in_rounds).prog [34]) (H := OH.hk) (ob := OH.ob) (M := 3000) (loose := OH.loose) (d := HandSHeadRun.topDef (OpenLaw.row PySem.Challenge.rw_ordersheld_k92_whole_patterns_in_rounds).prog 34) (kwd := []) OH.ob_eq
    (by kernel_rfl) (fun s => by kernel_rfl) OH.run (by kernel_rfl) (by kernel_rfl) (by kernel_rfl) (by rfl) (by first | assumption | decide +kernel) (by decide +kernel) ⟨rfl, rfl, rfl, rfl, rfl, by decide +kernel⟩ ?hw ?hc
  case hw => w_witness2
  case hc =>
    exact OH.law_end (l := PySem.Challenge.rw_ordersheld_k92_whole_patterns_in_rounds) (k := 40) OH.ds OH.G 23 OH.d23 rfl (by kernel_rfl) ⟨rfl, by decide, by decide⟩ rfl (by kernel_rfl) rfl rfl OH.chk OH.bnd OH.law_true
