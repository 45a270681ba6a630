import PyProof.Rows.All
import HandS.ForMost
import HandS.More
import HandS.Exc
import HandS.ExcOwn
import HandS.Wide
import HandS.WideBits
import HandS.TupAny
import HandS.Property
import HandS.IsInst
import HandS.Defaults
import HandS.FStr
import HandS.RaiseMore
import HandS.SortInts
import HandS.Zip
import HandS.Codes
import HandS.Style
import KE.DataFind
import HandS.Deep
import HandS.Flt
import HandS.SortRule
import HandS.Iter
import KE.GoesMore
import HandS.HeadHook3
import HandS.HeadWalk
import HandS.Walk
import KE.KFmtOwn
import KE.KCallOwn
import HandS.SlotsOwn
import HandS.Conv
import PyProof.LongRange
import HandS.ListItems
import HandS.Star
import HandS.TryOnly
import HandS.HeadEnd
import HandS.Head2
import PyProof.Rows.ReprOcc
import PyProof.StrLawsRepr
import KE.KStateDown
import PySem.Challenge.RW_ringrows_k51_pictures_told
section
/-! EvA: data by value, the core language, its evaluator. Own work. -/
set_option linter.all false
namespace Ev
open PySem

/-! ### data -/
abbrev Tx := List Nat
inductive D where
  | non
  | bl (b : Bool)
  | int (i : Int)
  | str (s : Tx)
  | tup (xs : List D)
  | lst (xs : List D)
  | scr (xs : List Int)
  | dic (ks : List D) (vs : List D)
  | ins (c : Nat) (vs : List D)
/-- a mutable object of the store -/
inductive SO where
  | lst (xs : List D)
  | dic (ks : List D) (vs : List D)
  | ins (c : Nat) (fs : List (Nat × D))
  /-- a list that is being made -/
  | hid (xs : List D)
/-- what a name holds -/
inductive W where
  | d (x : D)
  | loc (n : Nat)
abbrev Store := List SO
inductive R (α : Type) where
  | ok (a : α) (S : Store)
  | ex (c : Nat) (vs : List D) (S : Store)
  | bad
def R.bind {α β : Type} (m : R α) (f : α → Store → R β) : R β := match m with
  | .ok a S => f a S
  | .ex c vs S => .ex c vs S
  | .bad => .bad
@[simp] theorem R.bind_ok {α β : Type} (a : α) (S : Store) (f : α → Store → R β) : (R.ok a S).bind f = f a S := rfl
@[simp] theorem R.bind_ex {α β : Type} (c : Nat) (vs : List D) (S : Store) (f : α → Store → R β) : (R.ex c vs S).bind f = .ex c vs S := rfl
@[simp] theorem R.bind_bad {α β : Type} (f : α → Store → R β) : (R.bad).bind f = .bad := rfl
theorem R.bind_assoc {α β γ : Type} (m : R α) (f : α → Store → R β) (g : β → Store → R γ) : (m.bind f).bind g = m.bind fun a S => (f a S).bind g := by
  cases m <;> rfl
abbrev Env := List (Option W)

/-! ### operations -/
inductive BOp where | add | sub | mul | fdiv | mod | pow
inductive COp where | eq | ne | lt | le | gt | ge | isN | notN | in_ | notIn
def lim : Nat := 4000000
/-- a product that the machine lets -/
def mulOk (i j : Int) : Bool := (decide (-(2 ^ 64) < i) && decide (i < 2 ^ 64)) || (decide (-(2 ^ 64) < j) && decide (j < 2 ^ 64)) || (decide (i.natAbs < 2 ^ 20000) && decide (j.natAbs < 2 ^ 20000))
def divOk (j : Int) : Bool := (decide (0 < j) && decide (j.natAbs < 2 ^ 8000)) || (decide (j ≠ 0) && decide (j.natAbs < 1073741824))
/-- a list (or a text's signs) by a place, from behind too -/
def ixN (n : Nat) (i : Int) : Option Nat := if 0 ≤ i then (if i < n then some i.toNat else none) else if -(n : Int) ≤ i then some (i + n).toNat else none
def atI {α : Type} (xs : List α) (i : Int) : Option α := (ixN xs.length i).bind fun j => xs[j]?
def sIx (n d : Nat) : Option Int → Nat
  | none => d
  | some v => if v < 0 then (v + (n : Int)).toNat else min v.toNat n
def cut {α : Type} (xs : List α) (lo hi : Option Int) : List α := (xs.drop (sIx xs.length 0 lo)).take (sIx xs.length xs.length hi - sIx xs.length 0 lo)
def repL {α : Type} (xs : List α) (k : Nat) : List α := (List.replicate k xs).flatten
mutual
/-- == of plain data, as Python has it -/
def eqv : D → D → Bool
  | .non, .non => true
  | .bl a, .bl b => a == b
  | .bl a, .int j => (if a then 1 else 0) == j
  | .int i, .bl b => i == (if b then 1 else 0)
  | .int i, .int j => i == j
  | .str x, .str y => x == y
  | .lst xs, .lst ys => eqvs xs ys
  | .tup xs, .tup ys => eqvs xs ys
  | _, _ => false
def eqvs : List D → List D → Bool
  | [], [] => true
  | x :: xs, y :: ys => eqv x y && eqvs xs ys
  | _, _ => false
end
mutual
/-- no instance, no dict, nowhere deep, texts of signs -/
def plain : Nat → D → Bool
  | _, .non => true
  | _, .bl _ => true
  | _, .int _ => true
  | _, .str s => s.all fun c => decide (c < 1114112)
  | n + 1, .lst xs => plains n xs
  | n + 1, .tup xs => plains n xs
  | _, _ => false
def plains : Nat → List D → Bool
  | _, [] => true
  | n, x :: xs => plain n x && plains n xs
end
def pl : D → Bool := plain 20
mutual
/-- what can be written: ints that are not too great -/
def showy : Nat → D → Bool
  | _, .non => true
  | _, .bl _ => true
  | _, .int i => decide (i.natAbs < 2 ^ 1900)
  | _, .str _ => true
  | n + 1, .lst xs => showys n xs
  | n + 1, .tup xs => showys n xs
  | _, _ => false
def showys : Nat → List D → Bool
  | _, [] => true
  | n, x :: xs => showy n x && showys n xs
end
def bin : BOp → D → D → Option D
  | .add, .int i, .int j => some (.int (i + j))
  | .add, .str s, .str t => if s.length + t.length ≤ lim then some (.str (s ++ t)) else none
  | .add, .lst s, .lst t => if s.length + t.length ≤ lim then some (.lst (s ++ t)) else none
  | .add, .tup s, .tup t => if s.length + t.length ≤ lim then some (.tup (s ++ t)) else none
  | .sub, .int i, .int j => some (.int (i - j))
  | .mul, .int i, .int j => if mulOk i j then some (.int (i * j)) else none
  | .mul, .str s, .int k => if s.length * k.toNat ≤ lim ∧ -(2 ^ 63) ≤ k ∧ k < 2 ^ 63 then some (.str (repL s k.toNat)) else none
  | .mul, .lst s, .int k => if s.length * k.toNat ≤ lim ∧ -(2 ^ 63) ≤ k ∧ k < 2 ^ 63 then some (.lst (repL s k.toNat)) else none
  | .fdiv, .int i, .int j => if divOk j then some (.int (i.fdiv j)) else none
  | .mod, .int i, .int j => if j ≠ 0 then some (.int (i.fmod j)) else none
  | .pow, .int i, .int j => if 0 ≤ j ∧ j ≤ 10000 ∧ i.natAbs < 2 ^ 64 then some (.int (i ^ j.toNat)) else none
  | _, _, _ => none
def ltT : Tx → Tx → Bool
  | [], [] => false
  | [], _ :: _ => true
  | _ :: _, [] => false
  | x :: xs, y :: ys => if x = y then ltT xs ys else decide (x < y)
/-! keys by which is sorted -/
abbrev Ky := List (Int ⊕ Tx)
def ltC : Int ⊕ Tx → Int ⊕ Tx → Bool
  | .inl a, .inl b => decide (a < b)
  | .inr a, .inr b => ltT a b
  | .inl _, .inr _ => true
  | .inr _, .inl _ => false
def ltK : Ky → Ky → Bool
  | [], [] => false
  | [], _ :: _ => true
  | _ :: _, [] => false
  | a :: as, b :: bs => if a = b then ltK as bs else ltC a b
def comK : D → Option (Int ⊕ Tx)
  | .int i => some (.inl i)
  | .str s => some (.inr s)
  | _ => none
def comsK : List D → Option Ky
  | [] => some []
  | x :: xs => (comK x).bind fun a => (comsK xs).map (a :: ·)
def keyK : D → Option Ky
  | .int i => some [.inl i]
  | .tup xs => comsK xs
  | _ => none
def srtKey (d : D) : Ky := (keyK d).getD []
def isL : Int ⊕ Tx → Bool
  | .inl _ => true
  | .inr _ => false
def insK {α : Type} (lt : α → α → Bool) (x : α) : List α → List α
  | [] => [x]
  | y :: l => if lt y x = true then y :: insK lt x l else x :: y :: l
def isort {α : Type} (lt : α → α → Bool) : List α → List α
  | [] => []
  | x :: l => insK lt x (isort lt l)
def isIn : D → Bool
  | .int _ => true
  | _ => false
/-- a tuple of ints and texts of these kinds -/
def isTk (κ : List Bool) : D → Bool
  | .tup xs => match comsK xs with
    | some k => decide (k.map isL = κ)
    | none => false
  | _ => false
/-- what can be sorted: ints, or tuples of the same kinds -/
def srtOk : List D → Bool
  | [] => true
  | x :: xs => ((x :: xs).all isIn) || (match keyK x with
    | some (a :: k) => (x :: xs).all (isTk ((a :: k).map isL))
    | _ => false)
def sortD (xs : List D) : List D := isort (fun a b => ltK (srtKey a) (srtKey b)) xs
/-- a piece of a text within it -/
def inT (s t : Tx) : Bool := (List.range (t.length + 1)).any fun k => (t.drop k).take s.length == s
/-- a dict's value at a text -/
def lookD : List D → List D → Tx → Option D
  | .str k :: ks, v :: vs, z => if k = z then some v else lookD ks vs z
  | _ :: ks, _ :: vs, z => lookD ks vs z
  | _, _, _ => none
/-- a dict's value at an int -/
def lookI : List D → List D → Int → Option D
  | .int k :: ks, v :: vs, z => if k = z then some v else lookI ks vs z
  | _ :: ks, _ :: vs, z => lookI ks vs z
  | _, _, _ => none
/-- a dict's key: a text or an int -/
def isKey : D → Bool
  | .str _ => true
  | .int _ => true
  | _ => false
def keyEq : D → D → Bool
  | .str a, .str b => decide (a = b)
  | .int i, .int j => decide (i = j)
  | _, _ => false
def repV (v : D) (k : D) : List D → List D → List D
  | x :: ks, y :: vs => (if keyEq x k then v else y) :: repV v k ks vs
  | _, _ => []
def putD (ks vs : List D) (k v : D) : List D × List D := if ks.any (fun x => keyEq x k) then (ks, repV v k ks vs) else (ks ++ [k], vs ++ [v])
def nodupK : List D → Bool
  | [] => true
  | k :: r => isKey k && !(r.any fun x => keyEq k x) && nodupK r
def isNon : D → Bool
  | .non => true
  | _ => false
def cmp : COp → D → D → Option D
  | .eq, .str a, .str b => some (.bl (a == b))
  | .eq, a, b => if pl a && pl b then some (.bl (eqv a b)) else none
  | .ne, .str a, .str b => some (.bl (!(a == b)))
  | .ne, a, b => if pl a && pl b then some (.bl (!eqv a b)) else none
  | .lt, .int i, .int j => some (.bl (decide (i < j)))
  | .le, .int i, .int j => some (.bl (decide (i ≤ j)))
  | .gt, .int i, .int j => some (.bl (decide (j < i)))
  | .ge, .int i, .int j => some (.bl (decide (j ≤ i)))
  | .isN, a, .non => some (.bl (isNon a))
  | .isN, .bl a, .bl b => some (.bl (decide (a = b)))
  | .notN, .bl a, .bl b => some (.bl (!decide (a = b)))
  | .notN, a, .non => some (.bl (!isNon a))
  | .in_, .str [c], .str t => some (.bl (decide (c ∈ t)))
  | .in_, a, .lst ys => if pl a && pl (.lst ys) then some (.bl (ys.any fun y => eqv y a)) else none
  | .in_, a, .tup ys => if pl a && pl (.tup ys) then some (.bl (ys.any fun y => eqv y a)) else none
  | .in_, .str z, .dic ks vs => some (.bl (lookD ks vs z).isSome)
  | .notIn, .str z, .dic ks vs => some (.bl (!(lookD ks vs z).isSome))
  | .notIn, .str [c], .str t => some (.bl (!decide (c ∈ t)))
  | .notIn, a, .lst ys => if pl a && pl (.lst ys) then some (.bl (!ys.any fun y => eqv y a)) else none
  | .notIn, a, .tup ys => if pl a && pl (.tup ys) then some (.bl (!ys.any fun y => eqv y a)) else none
  | _, _, _ => none
def truth : D → Option Bool
  | .bl b => some b
  | .non => some false
  | .int i => some (i != 0)
  | .str s => some (!s.isEmpty)
  | .lst s => some (!s.isEmpty)
  | .tup s => some (!s.isEmpty)
  | _ => none
def neg : D → Option D
  | .int i => some (.int (-i))
  | _ => none
def item : D → D → Option D
  | .lst xs, .int i => atI xs i
  | .scr xs, .int i => (atI xs i).map .int
  | .tup xs, .int i => atI xs i
  | .str s, .int i => (atI s i).map fun c => .str [c]
  | .dic ks vs, .str z => lookD ks vs z
  | .dic ks vs, .int z => lookI ks vs z
  | _, _ => none
def slice : D → Option Int → Option Int → Option D
  | .lst xs, lo, hi => some (.lst (cut xs lo hi))
  | .tup xs, lo, hi => some (.tup (cut xs lo hi))
  | .str s, lo, hi => some (.str (cut s lo hi))
  | _, _, _ => none

/-! ### built-ins -/
mutual
def toPy : D → PyData
  | .non => .none
  | .bl b => .bool b
  | .int i => .int i
  | .str s => .str ⟨s.toArray⟩
  | .tup xs => .tuple (toPys xs)
  | .lst xs => .list (toPys xs)
  | _ => .none
def toPys : List D → List PyData
  | [] => []
  | x :: xs => toPy x :: toPys xs
end
/-- the text that repr tells of plain data -/
def reprD (d : D) : Tx := (toPy d).shown.cps.toList
def reprOk (d : D) : Bool := showy 20 d && decide ((reprD d).length ≤ lim)
def strI (i : Int) : Tx := (Str.ofString (toString i)).cps.toList
def intsOf : List D → Option (List Int)
  | [] => some []
  | .int i :: xs => (intsOf xs).map (i :: ·)
  | _ => none
def blsOf : List D → Option (List Bool)
  | [] => some []
  | .bl i :: xs => (blsOf xs).map (i :: ·)
  | _ => none
def txsOf : List D → Option (List Tx)
  | [] => some []
  | .str i :: xs => (txsOf xs).map (i :: ·)
  | _ => none
def joinT (sep : Tx) : List Tx → Tx
  | [] => []
  | [x] => x
  | x :: xs => x ++ sep ++ joinT sep xs
def cntT (c : Nat) (t : Tx) : Int := ((t.filter (· == c)).length : Nat)
def maxL : List Int → Option Int
  | [] => none
  | x :: xs => some (xs.foldl (fun a b => if b > a then b else a) x)
def minL : List Int → Option Int
  | [] => none
  | x :: xs => some (xs.foldl (fun a b => if b < a then b else a) x)
inductive Bi where | len | abs | max2 | min2 | max3 | int | str | list | tuple | sum | max1 | min1 | any | all | divmod | repr | sorted
def fLen : List D → Option D
  | [.str s] => some (.int (s.length : Nat))
  | [.lst s] => some (.int (s.length : Nat))
  | [.tup s] => some (.int (s.length : Nat))
  | [.scr s] => some (.int (s.length : Nat))
  | _ => none
def fAbs : List D → Option D
  | [.int i] => some (.int (if i < 0 then -i else i))
  | _ => none
def fMax2 : List D → Option D
  | [.int i, .int j] => some (.int (if j > i then j else i))
  | _ => none
def fMin2 : List D → Option D
  | [.int i, .int j] => some (.int (if j < i then j else i))
  | _ => none
def fMax3 : List D → Option D
  | [.int i, .int j, .int k] => some (.int (if k > (if j > i then j else i) then k else (if j > i then j else i)))
  | _ => none
def fInt : List D → Option D
  | [.int i] => some (.int i)
  | [.bl b] => some (.int (if b then 1 else 0))
  | _ => none
def fStr : List D → Option D
  | [.str s] => some (.str s)
  | [.int i] => if i.natAbs < 2 ^ 1900 then some (.str (strI i)) else none
  | _ => none
def fList : List D → Option D
  | [.lst s] => some (.lst s)
  | [.tup s] => some (.lst s)
  | _ => none
def fTuple : List D → Option D
  | [.lst s] => some (.tup s)
  | [.tup s] => some (.tup s)
  | _ => none
def fSum : List D → Option D
  | [.lst s] => (intsOf s).map fun ns => .int ns.sum
  | _ => none
def fMax1 : List D → Option D
  | [.lst s] => (intsOf s).bind fun ns => (maxL ns).map .int
  | _ => none
def fMin1 : List D → Option D
  | [.lst s] => (intsOf s).bind fun ns => (minL ns).map .int
  | _ => none
def fAny : List D → Option D
  | [.lst s] => (blsOf s).map fun bs => .bl (bs.any id)
  | _ => none
def fAll : List D → Option D
  | [.lst s] => (blsOf s).map fun bs => .bl (bs.all id)
  | _ => none
def fDivmod : List D → Option D
  | [.int i, .int j] => if 0 < j ∧ j.natAbs < 2 ^ 8000 then some (.tup [.int (i / j), .int (i % j)]) else none
  | _ => none
def fRepr : List D → Option D
  | [d] => if reprOk d then some (.str (reprD d)) else none
  | _ => none
def fSorted : List D → Option D
  | [.lst xs] => if srtOk xs = true ∧ xs.length ≤ lim then some (.lst (sortD xs)) else none
  | [.tup xs] => if srtOk xs = true ∧ xs.length ≤ lim then some (.lst (sortD xs)) else none
  | _ => none
def bi : Bi → List D → Option D
  | .len => fLen
  | .abs => fAbs
  | .max2 => fMax2
  | .min2 => fMin2
  | .max3 => fMax3
  | .int => fInt
  | .str => fStr
  | .list => fList
  | .tuple => fTuple
  | .sum => fSum
  | .max1 => fMax1
  | .min1 => fMin1
  | .any => fAny
  | .all => fAll
  | .divmod => fDivmod
  | .repr => fRepr
  | .sorted => fSorted
inductive Bm where | join | count | lcount | lindex
def bm : Bm → D → List D → Option D
  | .join, .str sep, [.lst xs] => (txsOf xs).bind fun ts => if (ts.map (·.length)).sum + ts.length * sep.length ≤ lim then some (.str (joinT sep ts)) else none
  | .count, .str t, [.str [c]] => some (.int (cntT c t))
  | .lcount, .lst xs, [y] => if pl (.lst xs) && pl y then some (.int ((xs.countP fun x => eqv x y : Nat) : Int)) else none
  | .lindex, .lst xs, [y] => if pl (.lst xs) && pl y then (xs.findIdx? fun x => eqv x y).map fun j => .int (j : Nat) else none
  | _, _, _ => none
/-- kinds for isinstance -/
inductive Ki where | int | bool | str | list | tuple | dict | cls (c : Nat)

/-! ### the core language -/
inductive At where | fld (j : Nat) | prop (g : Nat)
/-- names that are stored to -/
inductive Tn where
  | name (i : Nat)
  | tup (ts : List Tn)
/-- where an argument comes from: a place, a keyword, a default -/
inductive Src where | pos (i : Nat) | kw (j : Nat) | dfl (i : Nat)
  deriving DecidableEq
inductive Mu where | append | extend | pop | popAt | clear | reverse | insert
mutual
inductive Ex where
  | var (i : Nat)
  | con (d : D)
  | glo (x : Nat)
  | bin (o : BOp) (a b : Ex)
  | neg (a : Ex)
  | not (a : Ex)
  | and (a b : Ex)
  | or (a b : Ex)
  | cmp (o : COp) (a b : Ex)
  | chn (o p : COp) (a b c : Ex)
  | ite (c a b : Ex)
  /-- a list display; m: it is changed later -/
  | lst (m : Bool) (es : Exs)
  | tup (es : Exs)
  | idx (a i : Ex)
  | slc (a : Ex) (lo hi : Eo)
  | att (a : Ex) (f : Nat)
  | call (g : Nat) (es ks : Exs) (sp : List Src)
  | make (c : Nat) (es ks : Exs) (sp : List Src)
  | meth (a : Ex) (m : Nat) (es ks : Exs) (sp : List Src)
  | bi (b : Bi) (es : Exs)
  | bm (m : Bm) (a : Ex) (es : Exs)
  | mu (m : Mu) (a : Ex) (es : Exs)
  | isi (a : Ex) (ks : List Ki)
  /-- list of what is walked; m: it is changed later -/
  | lof (m : Bool) (it : It)
  /-- list(a), a list that is changed later -/
  | thaw (a : Ex)
  /-- a list backwards -/
  | rev (a : Ex)
  /-- a + b, a list that is changed later -/
  | addL (a b : Ex)
  /-- a dict display; m: it is changed later -/
  | dsp (m : Bool) (ks : List D) (vs : Exs)
  /-- dict(list(a.items())), changed later -/
  | dcp (a : Ex)
  | cmpr (m : Bool) (elt : Ex) (tg : Tn) (it : It) (cs : Eo) (own : List Nat)
  /-- over a list of the store as it stands -/
  | cmprL (m : Bool) (elt : Ex) (tg : Tn) (a : Ex) (cs : Eo) (own : List Nat)
  | fst (ps : Exs)
  | fmt (a : Ex)
  | fmr (a : Ex)
  | frz (a : Ex)
  /-- len(a), a an instance with an own __len__ -/
  | lenO (a : Ex) (m : Nat)
  /-- a(e), a an instance with an own __call__ -/
  | callO (a : Ex) (m : Nat) (e : Ex)
inductive Exs where
  | nil
  | cons (e : Ex) (es : Exs)
inductive Eo where
  | no
  | so (e : Ex)
inductive It where
  | seq (a : Ex)
  | rng1 (a : Ex)
  /-- a range of any numbers -/
  | rngB (a b : Ex)
  | rng2 (a b : Ex)
  | enu (a : Ex)
  | zip (a b : Ex)
  /-- a range with a step -/
  | rng3 (a b c : Ex)
end
inductive Tg where
  | name (i : Nat)
  | sub (a i : Ex)
mutual
inductive Sm where
  | asg (tg : Tg) (e : Ex)
  | unp (ts : List Tg) (e : Ex)
  /-- to names within tuples -/
  | unn (ts : List Tn) (e : Ex)
  | par (is : List Nat) (es : Exs)
  /-- the same, by way of a tuple -/
  | pat (is : List Nat) (es : Exs)
  | satt (a : Ex) (f : Nat) (e : Ex)
  | aug (i : Nat) (o : BOp) (e : Ex)
  | expr (e : Ex)
  | ite (c : Ex) (a b : Sms)
  | loop (tg : Tn) (it : It) (body : Sms)
  /-- over a list, a tuple, or a list of the caller's store as it stands; en: with places -/
  | loopL (en : Bool) (tg : Tn) (a : Ex) (body : Sms)
  | whil (c : Ex) (body : Sms)
  | ret (e : Ex)
  | retN
  | rais (c : Nat) (es : Exs)
  | pass
  | brk
  | cnt
inductive Sms where
  | nil
  | cons (s : Sm) (r : Sms)
  /-- name i's object, made last of all, is not changed any more -/
  | frz (i : Nat) (r : Sms)
end
/-- what a block ends with -/
inductive Fl where
  | nx (env : Env)
  | rt (w : W)
  | bk (env : Env)
  | ct (env : Env)
  | ex (c : Nat) (vs : List D) (env : Env)
/-- an expression within a statement: an exception ends the statement -/
def R.bindX {α : Type} (env : Env) (m : R α) (f : α → Store → R Fl) : R Fl := match m with
  | .ok a S => f a S
  | .ex c vs S => .ok (.ex c vs env) S
  | .bad => .bad
@[simp] theorem R.bindX_ok {α : Type} (env : Env) (a : α) (S : Store) (f : α → Store → R Fl) : R.bindX env (R.ok a S) f = f a S := rfl
@[simp] theorem R.bindX_ex {α : Type} (env : Env) (c : Nat) (vs : List D) (S : Store) (f : α → Store → R Fl) : R.bindX env (R.ex c vs S) f = .ok (.ex c vs env) S := rfl
@[simp] theorem R.bindX_bad {α : Type} (env : Env) (f : α → Store → R Fl) : R.bindX env (R.bad) f = .bad := rfl
structure Fn where
  np : Nat
  nl : Nat
  dfl : List D
  body : Sms
structure Cl where
  init : Nat
  flds : List Nat
  ats : List (Nat × At)
  ms : List (Nat × Nat)
  sup : List Nat
  eqf : Option Nat
  strf : Option Nat
  reprf : Option Nat
  lenf : Option Nat
structure Tab where
  fns : List Fn
  cls : List Cl
  glob : List D

/-! ### small parts of the evaluator -/
def rdS : SO → Option D
  | .lst xs => some (.lst xs)
  | .dic ks vs => some (.dic ks vs)
  | _ => none
/-- a value's data: a list that can be changed is read as it stands -/
def rd (S : Store) : W → Option D
  | .d x => some x
  | .loc n => (S[n]?).bind rdS
def rds (S : Store) : List W → Option (List D)
  | [] => some []
  | w :: ws => (rd S w).bind fun x => (rds S ws).map (x :: ·)
/-- values that are data already -/
def dats : List W → Option (List D)
  | [] => some []
  | .d x :: ws => (dats ws).map (x :: ·)
  | .loc _ :: _ => none
def R.of {α : Type} (o : Option α) (S : Store) : R α := match o with
  | some a => .ok a S
  | none => .bad
@[simp] theorem R.of_some {α : Type} (a : α) (S : Store) : R.of (some a) S = .ok a S := rfl
@[simp] theorem R.of_none {α : Type} (S : Store) : (R.of none S : R α) = .bad := rfl
def R.noex {α : Type} : R α → R α
  | .ok a S => .ok a S
  | _ => .bad
@[simp] theorem R.noex_ok {α : Type} (a : α) (S : Store) : (R.ok a S).noex = .ok a S := rfl
def slot (env : Env) (i : Nat) : Option W := (env[i]?).bind id
def wipe : List Nat → Env → Env
  | [], env => env
  | v :: vs, env => (wipe vs env).set v none
mutual
def bindN : Tn → D → Env → Option Env
  | .name i, x, env => if i < env.length then some (env.set i (some (.d x))) else none
  | .tup ts, .tup xs, env => bindNs ts xs env
  | _, _, _ => none
def bindNs : List Tn → List D → Env → Option Env
  | [], [], env => some env
  | t :: ts, x :: xs, env => (bindN t x env).bind fun e => bindNs ts xs e
  | _, _, _ => none
end
/-- the items one by one, put behind the list that is being made at p; none: left out -/
def accR (f : D → Store → R (Option D)) (p : Nat) : List D → Store → R Unit
  | [], S => .ok () S
  | x :: xs, S => (f x S).bind fun o S1 => match o with
    | none => accR f p xs S1
    | some y => match S1[p]? with
      | some (.hid ys) => if ys.length < lim then accR f p xs (S1.set p (.hid (ys ++ [y]))) else .bad
      | _ => .bad
/-- .. the items of the list k of the store, as it stands at each turn -/
def accL (f : D → Store → R (Option D)) (p k : Nat) : Nat → Nat → Store → R Unit
  | 0, i, S => (match S[k]? with
    | some (.lst xs) => if xs.length ≤ i then .ok () S else .bad
    | _ => .bad)
  | n + 1, i, S => (match S[k]? with
    | some (.lst xs) => (match xs[i]? with
      | some x => (f x S).bind fun o S1 => match o with
        | none => accL f p k n (i + 1) S1
        | some y => match S1[p]? with
          | some (.hid ys) => if ys.length < lim then accL f p k n (i + 1) (S1.set p (.hid (ys ++ [y]))) else .bad
          | _ => .bad
      | none => .bad)
    | _ => .bad)
/-- .. its end -/
def accE (m : Bool) (p : Nat) (S : Store) : R W := match S[p]? with
  | some (.hid ys) => if m then .ok (.loc p) (S.take p ++ [.lst ys]) else .ok (.d (.lst ys)) (S.take p)
  | _ => .bad
def loopR (body : D → Env → Store → R Fl) : List D → Env → Store → R Fl
  | [], env, S => .ok (.nx env) S
  | x :: xs, env, S => (body x env S).bind fun fl S1 => match fl with
    | .nx e => loopR body xs e S1
    | .ct e => loopR body xs e S1
    | .bk e => .ok (.nx e) S1
    | .rt w => .ok (.rt w) S1
    | .ex c vs e => .ok (.ex c vs e) S1
/-- the list k of the store, as it stands at each turn -/
def liveR (en : Bool) (body : D → Env → Store → R Fl) (k : Nat) : Nat → Nat → Env → Store → R Fl
  | 0, i, env, S => (match S[k]? with
    | some (.lst xs) => if xs.length ≤ i then .ok (.nx env) S else .bad
    | _ => .bad)
  | f + 1, i, env, S => (match S[k]? with
    | some (.lst xs) => (match xs[i]? with
      | some x => (body (if en then .tup [.int (i : Nat), x] else x) env S).bind fun fl S1 => match fl with
        | .nx e => liveR en body k f (i + 1) e S1
        | .ct e => liveR en body k f (i + 1) e S1
        | .bk e => .ok (.nx e) S1
        | .rt w => .ok (.rt w) S1
        | .ex c vs e => .ok (.ex c vs e) S1
      | none => .bad)
    | _ => .bad)
def itW (c : Env → Store → R Bool) (b : Env → Store → R Fl) : Nat → Env → Store → R Fl
  | 0, _, _ => .bad
  | n + 1, env, S => (c env S).bindX env fun t S1 => if t then (b env S1).bind fun fl S2 => match fl with
      | .nx e => itW c b n e S2
      | .ct e => itW c b n e S2
      | .bk e => .ok (.nx e) S2
      | .rt w => .ok (.rt w) S2
      | .ex c vs e => .ok (.ex c vs e) S2
    else .ok (.nx env) S1
open Classical in
noncomputable def whileR (c : Env → Store → R Bool) (b : Env → Store → R Fl) (env : Env) (S : Store) : R Fl :=
  if h : ∃ n, itW c b n env S ≠ .bad then itW c b h.choose env S else .bad
def intRange (i j : Int) : List D := (List.range (j - i).toNat).map fun (k : Nat) => .int (i + (k : Int))
/-- how many items a range with a step upwards has -/
def stepN (i j c : Int) : Nat := if i < j then ((j - i - 1) / c + 1).toNat else 0
def stepRange (i j c : Int) : List D := (List.range (stepN i j c)).map fun (k : Nat) => .int (i + (k : Int) * c)
def chars (s : Tx) : List D := s.map fun c => .str [c]
def rngOk (i : Int) : Bool := decide (-(2 ^ 62) ≤ i) && decide (i < 2 ^ 62)
def items : D → Option (List D)
  | .lst xs => some xs
  | .tup xs => some xs
  | .str s => some (chars s)
  | .scr ns => some (ns.map .int)
  | _ => none
def enumD (xs : List D) : List D := xs.zipIdx.map fun p => .tup [.int (p.2 : Nat), p.1]
def zipD (xs ys : List D) : List D := (xs.zip ys).map fun p => .tup [p.1, p.2]
/-- an object of the store as data -/
def cold (T : Tab) : SO → Option D
  | .lst xs => some (.lst xs)
  | .dic ks vs => some (.dic ks vs)
  | .hid _ => none
  | .ins c fs => (T.cls[c]?).bind fun k => if fs.map (·.1) = k.flds then some (.ins c (fs.map (·.2))) else none
/-- what stands at n, last of all, as data -/
def coldAt (T : Tab) (n : Nat) (w : W) (S : Store) : R W := match w with
  | .d x => .ok (.d x) S
  | .loc m => if m = n ∧ S.length = n + 1 then (match (S[n]?).bind (cold T) with
    | some x => .ok (.d x) (S.take n)
    | none => .bad) else .bad
/-- an object made anew in the store, or data -/
def fresh (m : Bool) (xs : List D) (S : Store) : R W := if m then .ok (.loc S.length) (S ++ [.lst xs]) else .ok (.d (.lst xs)) S
/-- a dict that is being made at p -/
def accD (m : Bool) (p : Nat) (ks vs : List D) (S : Store) : R W := match S[p]? with
  | some (.dic [] []) => if ks.length = vs.length ∧ ks.length ≤ 15 ∧ nodupK ks = true then (if m then .ok (.loc p) (S.take p ++ [.dic ks vs]) else .ok (.d (.dic ks vs)) (S.take p)) else .bad
  | _ => .bad
/-- the items of a list or a tuple -/
def seqD (S : Store) (w : W) : Option (List D) := match rd S w with
  | some (.lst xs) => some xs
  | some (.tup xs) => some xs
  | _ => none
def clsOf (S : Store) : W → Option Nat
  | .d (.ins c _) => some c
  | .loc n => match S[n]? with
    | some (.ins c _) => some c
    | _ => none
  | _ => none
def spec (T : Tab) (sel : Cl → Option Nat) (S : Store) (w : W) : Option Nat := (clsOf S w).bind fun c => (T.cls[c]?).bind sel
/-- a value's type -/
inductive Tag where | non | bl | int | str | tup | lst | dic | cls (c : Nat)
def tagC (T : Tab) (c : Nat) : Option Tag := (T.cls[c]?).map fun _ => .cls c
def tagD (T : Tab) : D → Option Tag
  | .non => some .non
  | .bl _ => some .bl
  | .int _ => some .int
  | .str _ => some .str
  | .tup _ => some .tup
  | .lst _ => some .lst
  | .scr _ => some .lst
  | .dic _ _ => some .dic
  | .ins c _ => tagC T c
def tagW (T : Tab) (S : Store) : W → Option Tag
  | .d x => tagD T x
  | .loc n => match S[n]? with
    | some (.lst _) => some .lst
    | some (.dic _ _) => some .dic
    | some (.ins c _) => tagC T c
    | _ => none
def isK (T : Tab) : Tag → Ki → Bool
  | .bl, .bool => true
  | .bl, .int => true
  | .int, .int => true
  | .str, .str => true
  | .tup, .tuple => true
  | .lst, .list => true
  | .dic, .dict => true
  | .cls b, .cls c => match T.cls[b]? with
    | some k => k.sup.contains c
    | none => false
  | _, _ => false
def mutL : Mu → List D → List D → Option (D × List D)
  | .append, xs, [y] => if xs.length < lim then some (.non, xs ++ [y]) else none
  | .extend, xs, [.lst ys] => if xs.length + ys.length ≤ lim then some (.non, xs ++ ys) else none
  | .pop, xs, [] => (xs[xs.length - 1]?).map fun y => (y, xs.dropLast)
  | .popAt, xs, [.int i] => if xs.length ≤ lim then (ixN xs.length i).bind fun k => (xs[k]?).map fun y => (y, xs.eraseIdx k) else none
  | .clear, _, [] => some (.non, [])
  | .reverse, xs, [] => some (.non, xs.reverse)
  | .insert, xs, [.int i, y] => if xs.length < lim ∧ 0 ≤ i ∧ i < 2 ^ 62 then some (.non, xs.take i.toNat ++ [y] ++ xs.drop i.toNat) else none
  | _, _, _ => none
def isTx : W → Bool
  | .d (.str _) => true
  | _ => false
/-- the kinds whose methods these are -/
def bmK : Bm → W → Bool
  | .lcount, .d (.lst _) => true
  | .lcount, _ => false
  | .lindex, .d (.lst _) => true
  | .lindex, _ => false
  | _, w => isTx w
def isLs (S : Store) : W → Bool
  | .loc n => match S[n]? with
    | some (.lst _) => true
    | _ => false
  | _ => false
/-- within an f-string -/
def fmtD : D → Option D
  | .str s => some (.str s)
  | .int i => if i.natAbs < 2 ^ 1900 then some (.str (strI i)) else none
  | _ => none
def fmrD : D → Option D
  | .lst xs => if reprOk (.lst xs) then some (.str (reprD (.lst xs))) else none
  | .tup xs => if reprOk (.tup xs) then some (.str (reprD (.tup xs))) else none
  | .str s => if (reprD (.str s)).length ≤ lim then some (.str (reprD (.str s))) else none
  | .int i => if i.natAbs < 2 ^ 1900 then some (.str (strI i)) else none
  | _ => none
def muR (m : Mu) (w : W) (ys : List D) (S : Store) : R W := match w with
  | .loc n => match S[n]? with
    | some (.lst xs) => match mutL m xs ys with
      | some (r, zs) => .ok (.d r) (S.set n (.lst zs))
      | none => .bad
    | _ => .bad
  | _ => .bad
/-- at a def's end: what it made for itself is gone -/
def fin (n : Nat) (r : R Fl) : R W := r.noex.bind fun fl S => match fl with
  | .nx _ => .ok (.d .non) (S.take n)
  | .rt (.d x) => .ok (.d x) (S.take n)
  | .rt (.loc m) => if m < n then .ok (.loc m) (S.take n) else (match S[m]? with
    | some o => .ok (.loc n) (S.take n ++ [o])
    | none => .bad)
  | .ex c vs _ => .ex c vs (S.take n)
  | _ => .bad
abbrev Phi := Nat → List W → Store → R W
def asBl : W → Store → R Bool
  | .d (.bl b), S => .ok b S
  | _, _ => .bad
def cmpW (T : Tab) (Φ : Phi) (o : COp) (a b : W) (S : Store) : R W := match o, spec T Cl.eqf S a with
  | .eq, some g => (R.of (tagW T S b) S).bind fun _ S0 => (Φ g [a, b] S0).noex.bind fun r S1 => (asBl r S1).bind fun k S2 => .ok (.d (.bl k)) S2
  | .ne, some g => (R.of (tagW T S b) S).bind fun _ S0 => (Φ g [a, b] S0).noex.bind fun r S1 => (asBl r S1).bind fun k S2 => .ok (.d (.bl (!k))) S2
  | o, _ => match rd S a, rd S b with
    | some x, some y => (R.of (cmp o x y) S).bind fun z S => .ok (.d z) S
    | _, _ => .bad
def asStr : W → Store → R W
  | .d (.str s), S => .ok (.d (.str s)) S
  | _, _ => .bad
def biW (T : Tab) (Φ : Phi) (b : Bi) (ws : List W) (S : Store) : R W := match b, ws with
  | .str, [w] => (match spec T Cl.strf S w with
    | some g => (Φ g [w] S).noex.bind asStr
    | none => (R.of ((rds S [w]).bind (bi .str)) S).bind fun z S => .ok (.d z) S)
  | .repr, [w] => (match spec T Cl.reprf S w with
    | some g => (Φ g [w] S).noex.bind asStr
    | none => (R.of ((rds S [w]).bind (bi .repr)) S).bind fun z S => .ok (.d z) S)
  | b, ws => (R.of ((rds S ws).bind (bi b)) S).bind fun z S => .ok (.d z) S
def attR (T : Tab) (Φ : Phi) (w : W) (f : Nat) (S : Store) : R W := match clsOf S w with
  | none => .bad
  | some c => match (T.cls[c]?).bind fun k => k.ats.lookup f with
    | some (.prop g) => (Φ g [w] S).noex
    | some (.fld j) => (match w with
      | .d (.ins _ vs) => (R.of (vs[j]?) S).bind fun x S => .ok (.d x) S
      | .loc n => (match S[n]? with
        | some (.ins _ fs) => (R.of (fs.lookup f) S).bind fun x S => .ok (.d x) S
        | _ => .bad)
      | _ => .bad)
    | none => .bad
/-- the instance has no attribute of its own of that name -/
def noOwn (S : Store) (m : Nat) : W → Bool
  | .loc n => match S[n]? with
    | some (.ins _ fs) => (fs.lookup m).isNone
    | _ => true
  | _ => true
def methOf (T : Tab) (S : Store) (w : W) (m : Nat) : Option Nat := (clsOf S w).bind fun c => (T.cls[c]?).bind fun k => if noOwn S m w then k.ms.lookup m else none
/-- a method that is looked for at the class alone -/
def specM (T : Tab) (S : Store) (w : W) (m : Nat) : Option Nat := (clsOf S w).bind fun c => (T.cls[c]?).bind fun k => k.ms.lookup m
def asLen : W → Store → R W
  | .d (.int i), S => if 0 ≤ i ∧ i < 2 ^ 62 then .ok (.d (.int i)) S else .bad
  | _, _ => .bad
def pickW (ws zs : List W) (ds : List D) : Src → Option W
  | .pos i => ws[i]?
  | .kw j => zs[j]?
  | .dfl i => (ds[i]?).map .d
def pickAll (ws zs : List W) (ds : List D) : List Src → Option (List W)
  | [] => some []
  | s :: r => (pickW ws zs ds s).bind fun w => (pickAll ws zs ds r).map (w :: ·)
/-- a call's arguments in the parameters' order; sp empty: by place, all of them -/
def argsW (T : Tab) (g : Nat) (sp : List Src) (ws zs : List W) : Option (List W) := match sp with
  | [] => some ws
  | sp => (T.fns[g]?).bind fun f => pickAll ws zs f.dfl sp
def asTx : W → Store → R Tx
  | .d (.str s), S => .ok s S
  | _, _ => .bad
def setF (fs : List (Nat × D)) (f : Nat) (x : D) : List (Nat × D) := match fs with
  | [] => [(f, x)]
  | (g, y) :: r => if g = f then (f, x) :: r else (g, y) :: setF r f x

/-! ### the evaluator -/
section
variable (T : Tab) (Φ : Phi)
mutual
def evE : Ex → Env → Store → R W
  | .var i, env, S => R.of (slot env i) S
  | .con d, _, S => .ok (.d d) S
  | .glo x, _, S => (R.of (T.glob[x]?) S).bind fun d S => .ok (.d d) S
  | .bin o a b, env, S => (evE a env S).bind fun x S1 => (evE b env S1).bind fun y S2 => match rd S2 x, rd S2 y with
    | some u, some v => (R.of (bin o u v) S2).bind fun z S => .ok (.d z) S
    | _, _ => .bad
  | .neg a, env, S => (evE a env S).bind fun x S1 => (R.of ((rd S1 x).bind neg) S1).bind fun z S => .ok (.d z) S
  | .not a, env, S => (evE a env S).bind fun x S1 => (asBl x S1).bind fun k S2 => .ok (.d (.bl (!k))) S2
  | .and a b, env, S => (evE a env S).bind fun x S1 => (asBl x S1).bind fun k S2 => if k then evE b env S2 else .ok (.d (.bl false)) S2
  | .or a b, env, S => (evE a env S).bind fun x S1 => (asBl x S1).bind fun k S2 => if k then .ok (.d (.bl true)) S2 else evE b env S2
  | .cmp o a b, env, S => (evE a env S).bind fun x S1 => (evE b env S1).bind fun y S2 => cmpW T Φ o x y S2
  | .chn o p a b c, env, S => (evE a env S).bind fun x S1 => (evE b env S1).bind fun y S2 => (cmpW T Φ o x y S2).bind fun r S3 => (asBl r S3).bind fun k S4 =>
      if k then (evE c env S4).bind fun z S5 => cmpW T Φ p y z S5 else .ok (.d (.bl false)) S4
  | .ite c a b, env, S => (evT c (evE c) env S).bind fun k S1 => if k then evE a env S1 else evE b env S1
  | .lst m es, env, S => (evEs es env S).bind fun ws S1 => (R.of (dats ws) S1).bind fun xs S2 => fresh m xs S2
  | .tup es, env, S => (evEs es env S).bind fun ws S1 => (R.of (dats ws) S1).bind fun xs S2 => .ok (.d (.tup xs)) S2
  | .idx a i, env, S => (evE a env S).bind fun x S1 => (evE i env S1).bind fun y S2 => match rd S2 x, rd S2 y with
    | some u, some v => (R.of (item u v) S2).bind fun z S => .ok (.d z) S
    | _, _ => .bad
  | .slc a lo hi, env, S => (evE a env S).bind fun x S1 => (evO lo env S1).bind fun l S2 => (evO hi env S2).bind fun h S3 => (R.of ((rd S3 x).bind fun u => slice u l h) S3).bind fun z S => .ok (.d z) S
  | .att a f, env, S => (evE a env S).bind fun x S1 => attR T Φ x f S1
  | .call g es ks sp, env, S => (evEs es env S).bind fun ws S1 => (evEs ks env S1).bind fun zs S2 => (R.of (argsW T g sp ws zs) S2).bind fun fs S3 => Φ g fs S3
  | .make c es ks sp, env, S => (evEs es env S).bind fun ws S1 => (evEs ks env S1).bind fun zs S2 => match T.cls[c]? with
    | some k => (R.of (argsW T k.init sp (.loc S2.length :: ws) zs) S2).bind fun fs S3 => (Φ k.init fs (S3 ++ [.ins c []])).bind fun r S4 => match r with
      | .d .non => .ok (.loc S3.length) S4
      | _ => .bad
    | none => .bad
  | .meth a m es ks sp, env, S => (evE a env S).bind fun x S1 => match methOf T S1 x m with
    | some g => (evEs es env S1).bind fun ws S2 => (evEs ks env S2).bind fun zs S3 => (R.of (argsW T g sp (x :: ws) zs) S3).bind fun fs S4 => Φ g fs S4
    | none => .bad
  | .bi b es, env, S => (evEs es env S).bind fun ws S1 => biW T Φ b ws S1
  | .bm m a es, env, S => (evE a env S).bind fun x S1 => if bmK m x then (evEs es env S1).bind fun ws S2 => match rd S2 x, rds S2 ws with
    | some u, some vs => (R.of (bm m u vs) S2).bind fun z S => .ok (.d z) S
    | _, _ => .bad else .bad
  | .mu m a es, env, S => (evE a env S).bind fun x S1 => if isLs S1 x then (evEs es env S1).bind fun ws S2 => (R.of (dats ws) S2).bind fun ys S3 => muR m x ys S3 else .bad
  | .isi a ks, env, S => (evE a env S).bind fun x S1 => match tagW T S1 x with
    | some g => .ok (.d (.bl (ks.any (isK T g)))) S1
    | none => .bad
  | .lof m it, env, S => (evI it env S).bind fun xs S1 => if xs.length ≤ lim then fresh m xs S1 else .bad
  | .thaw a, env, S => (evE a env S).bind fun w S1 => (R.of (seqD S1 w) S1).bind fun xs S2 => fresh true xs S2
  | .rev a, env, S => (evE a env S).bind fun w S1 => match rd S1 w with
    | some (.lst xs) => .ok (.d (.lst xs.reverse)) S1
    | some (.str z) => .ok (.d (.str z.reverse)) S1
    | _ => .bad
  | .addL a b, env, S => (evE a env S).bind fun x S1 => (evE b env S1).bind fun y S2 => match rd S2 x, rd S2 y with
    | some (.lst xs), some (.lst ys) => if xs.length + ys.length ≤ lim then fresh true (xs ++ ys) S2 else .bad
    | _, _ => .bad
  | .dsp m ks vs, env, S => (evEs vs env (S ++ [.dic [] []])).bind fun ws S1 => (R.of (dats ws) S1).bind fun xs S2 => accD m S.length ks xs S2
  | .dcp a, env, S => (evE a env S).bind fun w S1 => match w with
    | .loc k => (match S1[k]? with
      | some (.dic ks vs) => if ks.length = vs.length ∧ ks.length ≤ lim ∧ nodupK ks = true then .ok (.loc S1.length) (S1 ++ [.dic ks vs]) else .bad
      | _ => .bad)
    | _ => .bad
  | .cmpr m elt tg it cs own, env, S => (evI it env S).bind fun xs S1 => (accR (fun x S => match bindN tg x (wipe own env) with
      | none => .bad
      | some e => (evC cs e S).bind fun k S1 => if k then (evE elt e S1).bind fun w S2 => match w with
        | .d y => .ok (some y) S2
        | .loc _ => .bad else .ok none S1) S1.length xs (S1 ++ [.hid []])).noex.bind fun _ S2 => accE m S1.length S2
  | .fst ps, env, S => (evJ ps [] env S).bind fun s S1 => .ok (.d (.str s)) S1
  | .fmt a, env, S => (evE a env S).bind fun x S1 => (R.of ((rd S1 x).bind fmtD) S1).bind fun z S => .ok (.d z) S
  | .fmr a, env, S => (evE a env S).bind fun x S1 => (R.of ((rd S1 x).bind fmrD) S1).bind fun z S => .ok (.d z) S
  | .frz a, env, S => (evE a env S).bind fun x S1 => coldAt T S.length x S1
  | .lenO a m, env, S => (evE a env S).bind fun x S1 => match specM T S1 x m with
    | some g => (Φ g [x] S1).noex.bind asLen
    | none => .bad
  | .callO a m e, env, S => (evE a env S).bind fun x S1 => match x with
    | .d (.ins cc xs) => (match specM T S1 (.d (.ins cc xs)) m with
      | some g => (evE e env S1).bind fun y S2 => Φ g [.d (.ins cc xs), y] S2
      | none => .bad)
    | _ => .bad
  | .cmprL m elt tg a cs own, env, S => (evE a env S).bind fun w S1 => match w with
    | .loc k => (match S1[k]? with
      | some (.lst xs) => (accL (fun x S => match bindN tg x (wipe own env) with
        | none => .bad
        | some e => (evC cs e S).bind fun b S1 => if b then (evE elt e S1).bind fun w S2 => match w with
          | .d y => .ok (some y) S2
          | .loc _ => .bad else .ok none S1) S1.length k xs.length 0 (S1 ++ [.hid []])).noex.bind fun _ S2 => accE m S1.length S2
      | _ => .bad)
    | _ => .bad
/-- a test -/
def evT : Ex → (Env → Store → R W) → Env → Store → R Bool
  | .not a, _, env, S => (evT a (evE a) env S).bind fun k S1 => .ok (!k) S1
  | .and a b, _, env, S => (evT a (evE a) env S).bind fun k S1 => if k then evT b (evE b) env S1 else .ok false S1
  | .or a b, _, env, S => (evT a (evE a) env S).bind fun k S1 => if k then .ok true S1 else evT b (evE b) env S1
  | .ite c a b, _, env, S => (evT c (evE c) env S).bind fun k S1 => if k then evT a (evE a) env S1 else evT b (evE b) env S1
  | _, whole, env, S => (whole env S).bind fun x S1 => R.of ((rd S1 x).bind truth) S1
def evEs : Exs → Env → Store → R (List W)
  | .nil, _, S => .ok [] S
  | .cons e es, env, S => (evE e env S).bind fun w S1 => (evEs es env S1).bind fun ws S2 => .ok (w :: ws) S2
/-- texts one behind another -/
def evJ : Exs → Tx → Env → Store → R Tx
  | .nil, acc, _, S => .ok acc S
  | .cons e es, acc, env, S => (evE e env S).bind fun w S1 => match w with
    | .d (.str s) => if acc.length + s.length ≤ lim then evJ es (acc ++ s) env S1 else .bad
    | _ => .bad
def evO : Eo → Env → Store → R (Option Int)
  | .no, _, S => .ok none S
  | .so e, env, S => (evE e env S).bind fun w S1 => match rd S1 w with
    | some (.int i) => .ok (some i) S1
    | _ => .bad
def evC : Eo → Env → Store → R Bool
  | .no, _, S => .ok true S
  | .so e, env, S => evT e (evE e) env S
def evI : It → Env → Store → R (List D)
  | .seq a, env, S => (evE a env S).bind fun w S1 => match w with
    | .d x => R.of (items x) S1
    | _ => .bad
  | .rng1 a, env, S => (evE a env S).bind fun w S1 => match w with
    | .d (.int j) => if rngOk j then .ok (intRange 0 j) S1 else .bad
    | _ => .bad
  | .rng2 a b, env, S => (evE a env S).bind fun v S1 => (evE b env S1).bind fun w S2 => match v, w with
    | .d (.int i), .d (.int j) => if rngOk i && rngOk j then .ok (intRange i j) S2 else .bad
    | _, _ => .bad
  | .rngB a b, env, S => (evE a env S).bind fun v S1 => (evE b env S1).bind fun w S2 => match v, w with
    | .d (.int i), .d (.int j) => .ok (intRange i j) S2
    | _, _ => .bad
  | .enu a, env, S => (evE a env S).bind fun w S1 => match w with
    | .d (.lst xs) => .ok (enumD xs) S1
    | .d (.tup xs) => .ok (enumD xs) S1
    | _ => .bad
  | .zip a b, env, S => (evE a env S).bind fun v S1 => (evE b env S1).bind fun w S2 => match v, w with
    | .d (.lst xs), .d (.lst ys) => .ok (zipD xs ys) S2
    | .d (.tup xs), .d (.tup ys) => .ok (zipD xs ys) S2
    | _, _ => .bad
  | .rng3 a b e, env, S => (evE a env S).bind fun u S1 => (evE b env S1).bind fun v S2 => (evE e env S2).bind fun w S3 => match u, v, w with
    | .d (.int i), .d (.int j), .d (.int c) => if rngOk i && rngOk j && (decide (0 < c) && decide (c < 1000)) then .ok (stepRange i j c) S3 else .bad
    | _, _, _ => .bad
end
def evTg : Tg → W → Env → Store → R Env
  | .name i, w, env, S => if i < env.length then .ok (env.set i (some w)) S else .bad
  | .sub a i, w, env, S => (evE T Φ a env S).bind fun o S1 => (evE T Φ i env S1).bind fun k S2 => match o, k, w with
    | .loc n, .d k, .d x => (match S2[n]? with
      | some (.lst xs) => (match k with
        | .int j => (match ixN xs.length j with
          | some q => .ok env (S2.set n (.lst (xs.set q x)))
          | none => .bad)
        | _ => .bad)
      | some (.dic ks vs) => if isKey k = true ∧ ks.length < lim then .ok env (S2.set n (.dic (putD ks vs k x).1 (putD ks vs k x).2)) else .bad
      | _ => .bad)
    | _, _, _ => .bad
def evTgs : List Tg → List D → Env → Store → R Env
  | [], [], env, S => .ok env S
  | t :: ts, x :: xs, env, S => (evTg T Φ t (.d x) env S).bind fun e S1 => evTgs ts xs e S1
  | _, _, _, _ => .bad
/-- a op= b, where a is no object -/
def binI : BOp → D → D → Option D
  | .add, .int i, .int j => some (.int (i + j))
  | .add, .str s, .str t => if s.length + t.length ≤ lim then some (.str (s ++ t)) else none
  | .sub, .int i, .int j => some (.int (i - j))
  | .mul, .int i, .int j => if (-(2 ^ 64) < i ∧ i < 2 ^ 64) ∨ (-(2 ^ 64) < j ∧ j < 2 ^ 64) then some (.int (i * j)) else none
  | .fdiv, .int i, .int j => if 0 < j ∧ j < 1073741824 then some (.int (i / j)) else none
  | .mod, .int i, .int j => if 0 < j then some (.int (i % j)) else none
  | _, _, _ => none
def sattOk (T : Tab) (c f : Nat) (fs : List (Nat × D)) : Bool := match T.cls[c]? with
  | some k => k.flds.contains f && decide (fs.length < 1000)
  | none => false
def setPar : List Nat → List W → Env → Option Env
  | [], [], env => some env
  | i :: is, w :: ws, env => if i < env.length then setPar is ws (env.set i (some w)) else none
  | _, _, _ => none
mutual
noncomputable def evS (n0 : Nat) : Sm → Env → Store → R Fl
  | .asg tg e, env, S => ((evE T Φ e env S).bind fun w S1 => evTg T Φ tg w env S1).bindX env fun e S2 => .ok (.nx e) S2
  | .unp ts e, env, S => (evE T Φ e env S).bindX env fun w S1 => match w with
    | .d (.tup xs) => (evTgs T Φ ts xs env S1).noex.bindX env fun e S2 => .ok (.nx e) S2
    | .d (.lst xs) => (evTgs T Φ ts xs env S1).noex.bindX env fun e S2 => .ok (.nx e) S2
    | _ => .bad
  | .unn ts e, env, S => (evE T Φ e env S).bindX env fun w S1 => match w with
    | .d x => (R.of (bindN (.tup ts) x env) S1).bindX env fun e S2 => .ok (.nx e) S2
    | _ => .bad
  | .par is es, env, S => ((evEs T Φ es env S).bind fun ws S1 => R.of (setPar is ws env) S1).bindX env fun e S2 => .ok (.nx e) S2
  | .pat is es, env, S => ((evEs T Φ es env S).bind fun ws S1 => R.of (setPar is ws env) S1).bindX env fun e S2 => .ok (.nx e) S2
  | .satt a f e, env, S => ((evE T Φ e env S).bind fun w S1 => (evE T Φ a env S1).bind fun o S2 => match o, w with
    | .loc n, .d x => (match S2[n]? with
      | some (.ins c fs) => if sattOk T c f fs then .ok env (S2.set n (.ins c (setF fs f x))) else .bad
      | _ => .bad)
    | _, _ => .bad).bindX env fun e S2 => .ok (.nx e) S2
  | .aug i o e, env, S => (match slot env i with
    | none => .bad
    | some x => (evE T Φ e env S).bind fun y S1 => match x, y with
      | .d u, .d v => (R.of (binI o u v) S1).bind fun z S2 => .ok (env.set i (some (.d z))) S2
      | _, _ => .bad : R Env).bindX env fun e S2 => .ok (.nx e) S2
  | .expr e, env, S => (evE T Φ e env S).bindX env fun _ S1 => .ok (.nx env) S1
  | .ite c a b, env, S => (evT T Φ c (evE T Φ c) env S).bindX env fun k S1 => if k then evSs n0 a env S1 else evSs n0 b env S1
  | .loop tg it body, env, S => (evI T Φ it env S).bindX env fun xs S1 => loopR (fun x env S => match bindN tg x env with
      | some e => evSs n0 body e S
      | none => .bad) xs env S1
  | .loopL en tg a body, env, S => (evE T Φ a env S).bindX env fun w S1 => match w with
    | .d (.lst xs) => loopR (fun x env S => match bindN tg x env with
      | some e => evSs n0 body e S
      | none => .bad) (if en then enumD xs else xs) env S1
    | .d (.tup xs) => loopR (fun x env S => match bindN tg x env with
      | some e => evSs n0 body e S
      | none => .bad) (if en then enumD xs else xs) env S1
    | .loc k => if k < n0 then (match S1[k]? with
      | some (.lst xs) => liveR en (fun x env S => match bindN tg x env with
        | some e => evSs n0 body e S
        | none => .bad) k xs.length 0 env S1
      | _ => .bad) else .bad
    | _ => .bad
  | .whil c body, env, S => whileR (fun env S => evT T Φ c (evE T Φ c) env S) (fun env S => evSs n0 body env S) env S
  | .ret e, env, S => (evE T Φ e env S).bindX env fun w S1 => .ok (.rt w) S1
  | .retN, _, S => .ok (.rt (.d .non)) S
  | .rais _ _, _, _ => .bad
  | .pass, env, S => .ok (.nx env) S
  | .brk, env, S => .ok (.bk env) S
  | .cnt, env, S => .ok (.ct env) S
noncomputable def evSs (n0 : Nat) : Sms → Env → Store → R Fl
  | .nil, env, S => .ok (.nx env) S
  | .cons s r, env, S => (evS n0 s env S).bind fun fl S1 => match fl with
    | .nx e => evSs n0 r e S1
    | .rt w => .ok (.rt w) S1
    | .bk e => .ok (.bk e) S1
    | .ct e => .ok (.ct e) S1
    | .ex c vs e => .ok (.ex c vs e) S1
  | .frz i r, env, S => match slot env i with
    | some (.loc m) => if n0 ≤ m ∧ S.length = m + 1 ∧ (env.set i none).all (fun w => match w with | some (.loc k) => decide (k < m) | _ => true) then
        (match (S[m]?).bind (cold T) with
        | some x => evSs n0 r (env.set i (some (.d x))) (S.take m)
        | none => .bad) else .bad
    | _ => .bad
end
end
def start (n : Nat) (ws : List W) : Env := ws.map some ++ List.replicate (n - ws.length) none
/-- a call, so many calls deep at most -/
noncomputable def callD (T : Tab) : Nat → Phi
  | 0, _, _, _ => .bad
  | n + 1, g, ws, S => match T.fns[g]? with
    | some f => if ws.length = f.np then fin S.length (evSs T (callD T n) S.length f.body (start f.nl ws) S) else .bad
    | none => .bad
end Ev
end
section
/-! EvB: how data lie in the abstract heap; what a step keeps. Own work. -/
set_option linter.all false
set_option autoImplicit false
set_option maxRecDepth 100000
namespace Ev
open PySem L2

def tx (s : Tx) : Str := ⟨s.toArray⟩
/-- where the text's classes lie, the names by number -/
structure Lay where
  K : PySem.W.Frag
  w : World
  cls : Nat → Addr
  nm : Nat → Str
  flds : Nat → List Nat
def KTup (K : PySem.W.Frag) (a : Addr) (vs : List V) : Prop :=
  ∃ (o : Obj) (its : Array Value) (n : Nat), K.lookup a = some o ∧ o.cls = .type "tuple" ∧ o.data = .seq its n ∧ its.size ≤ sizeLine ∧ Vals vs its.toList
def KLst (K : PySem.W.Frag) (a : Addr) (vs : List V) : Prop :=
  ∃ (o : Obj) (its : Array Value) (n : Nat), K.lookup a = some o ∧ o.cls = .type "list" ∧ o.dict = none ∧ o.data = .seq its n ∧ its.size ≤ sizeLine ∧ Vals vs its.toList
mutual
/-- a constant of the module -/
def conB (K : PySem.W.Frag) : D → Value → Bool
  | .non, .none => true
  | .bl b, .bool c => b == c
  | .int i, .int j _ => i == j
  | .str s, .str x _ => decide (x = tx s) && decide (s.length ≤ lim)
  | .tup ds, .ref a => match K.lookup a with
    | some ⟨.type c, _, .seq its _, _⟩ => decide (c = "tuple") && decide (its.size ≤ sizeLine) && conBs K ds its.toList
    | _ => false
  | _, _ => false
def conBs (K : PySem.W.Frag) : List D → List Value → Bool
  | [], [] => true
  | d :: ds, u :: us => conB K d u && conBs K ds us
  | _, _ => false
end
/-- a dict of the module: its texts and values -/
def dicB (K : PySem.W.Frag) : List D → List D → List DictEntry → Bool
  | [], [], [] => true
  | .str k :: ks, v :: vs, e :: es => e.key.isStr (tx k) && conB K v e.val && decide (k.length ≤ lim) && dicB K ks vs es
  | _, _, _ => false
def keyD : D → Option L2.Key
  | .str s => some (.inr (tx s))
  | .int i => some (.inl i)
  | _ => none
/-- the keys of a dict of the heap -/
def DicR (ks : List D) (kvs : List (L2.Key × V)) : Prop := ks.map keyD = kvs.map fun p => some p.1
def KDic (K : PySem.W.Frag) (w : World) (a : Addr) (ks vs : List D) : Prop := ∃ es n, KDict K w a es n ∧ dicB K ks vs es.toList = true
mutual
def RepD (L : Lay) (H : Hp) (al : List Addr) : D → V → Prop
  | .non, v => v = .non
  | .bl b, v => v = .bl b
  | .int i, v => v = .int i
  | .str s, v => v = .str (tx s) ∧ s.length ≤ lim
  | .tup ds, v => ∃ a vs, v = .ref a ∧ ((H a = some (.tup vs) ∧ a ∉ al) ∨ KTup L.K a vs) ∧ RepDs L H al ds vs
  | .lst ds, v => ∃ a vs, v = .ref a ∧ H a = some (.lst vs) ∧ a ∉ al ∧ RepDs L H al ds vs
  | .scr ns, v => ∃ a, v = .ref a ∧ ((∃ o, H a = some o ∧ a ∉ al ∧ (o = .lst (ns.map V.int) ∨ ∃ ob, o = .frz ob (.lst (ns.map V.int)))) ∨ KLst L.K a (ns.map V.int))
  | .dic ks vs, v => ∃ a, v = .ref a ∧ (KDic L.K L.w a ks vs ∨ ∃ kvs, H a = some (.dK kvs) ∧ a ∉ al ∧ DicR ks kvs ∧ RepDs L H al vs (kvs.map (·.2)))
  | .ins c ds, v => ∃ a dx fs, v = .ref a ∧ H a = some (.ins (L.cls c) dx fs) ∧ a ∉ al ∧ fs.map (·.1) = (L.flds c).map L.nm ∧ RepDs L H al ds (fs.map (·.2))
def RepDs (L : Lay) (H : Hp) (al : List Addr) : List D → List V → Prop
  | [], vs => vs = []
  | d :: ds, vs => ∃ v us, vs = v :: us ∧ RepD L H al d v ∧ RepDs L H al ds us
end
def RepW (L : Lay) (H : Hp) (al : List Addr) : W → V → Prop
  | .d x, v => RepD L H al x v
  | .loc n, v => ∃ a, al[n]? = some a ∧ v = .ref a
def RepWs (L : Lay) (H : Hp) (al : List Addr) : List W → List V → Prop
  | [], vs => vs = []
  | d :: ds, vs => ∃ v us, vs = v :: us ∧ RepW L H al d v ∧ RepWs L H al ds us
def RepO (L : Lay) (H : Hp) (al : List Addr) (a : Addr) : SO → Prop
  | .lst ds => ∃ vs, H a = some (.lst vs) ∧ RepDs L H al ds vs
  | .dic ks vs => ∃ kvs, H a = some (.dK kvs) ∧ DicR ks kvs ∧ RepDs L H al vs (kvs.map (·.2))
  | .ins c fs => ∃ dx fvs, H a = some (.ins (L.cls c) dx fvs) ∧ fvs.map (·.1) = fs.map (fun p => L.nm p.1) ∧ RepDs L H al (fs.map (·.2)) (fvs.map (·.2))
  | .hid ds => ∃ vs, H a = some (.lst vs) ∧ RepDs L H al ds vs
structure RelS (L : Lay) (H : Hp) (S : Store) (al : List Addr) : Prop where
  len : al.length = S.length
  nd : al.Nodup
  obj : ∀ (i : Nat) (a : Addr) (o : SO), al[i]? = some a → S[i]? = some o → RepO L H al a o
structure RelE (L : Lay) (H : Hp) (al : List Addr) (env : Env) (σ : St) : Prop where
  len : env.length = σ.length
  at_ : ∀ (i : Nat) (w : W), env[i]? = some (some w) → ∃ v, σ[i]? = some (some v) ∧ RepW L H al w v
/-- from one state to a later one: the first n objects of the store are the same, all data stays -/
structure Step (n : Nat) (H : Hp) (al : List Addr) (H' : Hp) (al' : List Addr) : Prop where
  pre : al'.take n = al.take n
  le : n ≤ al.length
  le' : n ≤ al'.length
  keep : ∀ a o, H a = some o → a ∉ al → H' a = some o ∧ a ∉ al'
theorem Step.refl {n : Nat} {H : Hp} {al : List Addr} (h : n ≤ al.length) : Step n H al H al := ⟨rfl, h, h, fun _ _ e m => ⟨e, m⟩⟩
theorem Step.trans {n : Nat} {H H1 H2 : Hp} {al al1 al2 : List Addr} (a : Step n H al H1 al1) (b : Step n H1 al1 H2 al2) : Step n H al H2 al2 :=
  ⟨b.pre.trans a.pre, a.le, b.le', fun x o e m => let ⟨e1, m1⟩ := a.keep x o e m; b.keep x o e1 m1⟩
theorem Step.mono {n m : Nat} {H H1 : Hp} {al al1 : List Addr} (a : Step n H al H1 al1) (h : m ≤ n) : Step m H al H1 al1 := by
  refine ⟨?_, Nat.le_trans h a.le, Nat.le_trans h a.le', a.keep⟩
  have := congrArg (List.take m) a.pre
  rwa [List.take_take, List.take_take, Nat.min_eq_left h] at this
theorem Step.get {n i : Nat} {H H1 : Hp} {al al1 : List Addr} (a : Step n H al H1 al1) (h : i < n) : al1[i]? = al[i]? := by
  have := congrArg (fun l => l[i]?) a.pre
  simpa [List.getElem?_take, h] using this

section
variable {L : Lay} {H H' : Hp} {al al' : List Addr}
mutual
theorem RepD.stay (k : ∀ a o, H a = some o → a ∉ al → H' a = some o ∧ a ∉ al') : ∀ (d : D) (v : V), RepD L H al d v → RepD L H' al' d v
  | .non, _, h => by simpa only [RepD] using h
  | .bl _, _, h => by simpa only [RepD] using h
  | .int _, _, h => by simpa only [RepD] using h
  | .str _, _, h => by simpa only [RepD] using h
  | .tup ds, v, h => by
    simp only [RepD] at h ⊢
    obtain ⟨a, vs, e, q, r⟩ := h
    exact ⟨a, vs, e, q.imp (fun z => k _ _ z.1 z.2) id, RepDs.stay k ds vs r⟩
  | .lst ds, v, h => by
    simp only [RepD] at h ⊢
    obtain ⟨a, vs, e, q, m, r⟩ := h
    exact ⟨a, vs, e, (k _ _ q m).1, (k _ _ q m).2, RepDs.stay k ds vs r⟩
  | .scr ns, v, h => by
    simp only [RepD] at h ⊢
    obtain ⟨a, e, q⟩ := h
    exact ⟨a, e, q.imp (fun ⟨o, z, m, w⟩ => ⟨o, (k _ _ z m).1, (k _ _ z m).2, w⟩) id⟩
  | .dic ks vs, v, h => by
    simp only [RepD] at h ⊢
    obtain ⟨a, e, q⟩ := h
    exact ⟨a, e, q.imp id fun ⟨kvs, q, m, d, r⟩ => ⟨kvs, (k _ _ q m).1, (k _ _ q m).2, d, RepDs.stay k vs _ r⟩⟩
  | .ins c ds, v, h => by
    simp only [RepD] at h ⊢
    obtain ⟨a, dx, fs, e, q, m, f, r⟩ := h
    exact ⟨a, dx, fs, e, (k _ _ q m).1, (k _ _ q m).2, f, RepDs.stay k ds _ r⟩
theorem RepDs.stay (k : ∀ a o, H a = some o → a ∉ al → H' a = some o ∧ a ∉ al') : ∀ (ds : List D) (vs : List V), RepDs L H al ds vs → RepDs L H' al' ds vs
  | [], _, h => by simpa only [RepDs] using h
  | d :: ds, _, h => by
    simp only [RepDs] at h ⊢
    obtain ⟨v, us, e, r, q⟩ := h
    exact ⟨v, us, e, RepD.stay k d v r, RepDs.stay k ds us q⟩
end
theorem RepDs.length : ∀ {ds : List D} {vs : List V}, RepDs L H al ds vs → ds.length = vs.length
  | [], _, h => by simp only [RepDs] at h; subst h; rfl
  | d :: ds, _, h => by
    simp only [RepDs] at h
    obtain ⟨v, us, rfl, r, q⟩ := h
    simp [RepDs.length q]
theorem RepDs.append : ∀ {ds es : List D} {vs us : List V}, RepDs L H al ds vs → RepDs L H al es us → RepDs L H al (ds ++ es) (vs ++ us)
  | [], _, _, _, h, h' => by simp only [RepDs] at h; subst h; exact h'
  | d :: ds, _, _, _, h, h' => by
    simp only [RepDs] at h
    obtain ⟨v, us, rfl, r, q⟩ := h
    exact ⟨v, _, rfl, r, RepDs.append q h'⟩
theorem RepDs.get : ∀ {ds : List D} {vs : List V} {i : Nat} {d : D}, RepDs L H al ds vs → ds[i]? = some d → ∃ v, vs[i]? = some v ∧ RepD L H al d v
  | [], _, _, _, _, e => by simp at e
  | d :: ds, _, 0, x, h, e => by
    simp only [RepDs] at h
    obtain ⟨v, us, rfl, r, q⟩ := h
    simp at e; subst e
    exact ⟨v, rfl, r⟩
  | d :: ds, _, i + 1, x, h, e => by
    simp only [RepDs] at h
    obtain ⟨v, us, rfl, r, q⟩ := h
    simpa using RepDs.get q (by simpa using e)
theorem RepDs.get' : ∀ {ds : List D} {vs : List V} {i : Nat} {v : V}, RepDs L H al ds vs → vs[i]? = some v → ∃ d, ds[i]? = some d ∧ RepD L H al d v
  | [], _, _, _, h, e => by simp only [RepDs] at h; subst h; simp at e
  | d :: ds, _, 0, x, h, e => by
    simp only [RepDs] at h
    obtain ⟨v, us, rfl, r, q⟩ := h
    simp at e; subst e
    exact ⟨d, rfl, r⟩
  | d :: ds, _, i + 1, x, h, e => by
    simp only [RepDs] at h
    obtain ⟨v, us, rfl, r, q⟩ := h
    simpa using RepDs.get' q (by simpa using e)
theorem RepDs.take : ∀ {ds : List D} {vs : List V} (n : Nat), RepDs L H al ds vs → RepDs L H al (ds.take n) (vs.take n)
  | _, _, 0, _ => by simp [RepDs]
  | [], _, n + 1, h => by simp only [RepDs] at h; subst h; simp [RepDs]
  | d :: ds, _, n + 1, h => by
    simp only [RepDs] at h
    obtain ⟨v, us, rfl, r, q⟩ := h
    exact ⟨v, _, rfl, r, RepDs.take n q⟩
theorem RepDs.drop : ∀ {ds : List D} {vs : List V} (n : Nat), RepDs L H al ds vs → RepDs L H al (ds.drop n) (vs.drop n)
  | _, _, 0, h => by simpa using h
  | [], _, n + 1, h => by simp only [RepDs] at h; subst h; simp [RepDs]
  | d :: ds, _, n + 1, h => by
    simp only [RepDs] at h
    obtain ⟨v, us, rfl, r, q⟩ := h
    exact RepDs.drop n q
theorem RepDs.set : ∀ {ds : List D} {vs : List V} (n : Nat) {d : D} {v : V}, RepDs L H al ds vs → RepD L H al d v → RepDs L H al (ds.set n d) (vs.set n v)
  | [], _, n, _, _, h, _ => by simp only [RepDs] at h; subst h; cases n <;> simp [RepDs]
  | d :: ds, _, 0, _, _, h, h' => by
    simp only [RepDs] at h
    obtain ⟨v, us, rfl, r, q⟩ := h
    exact ⟨_, _, rfl, h', q⟩
  | d :: ds, _, n + 1, _, _, h, h' => by
    simp only [RepDs] at h
    obtain ⟨v, us, rfl, r, q⟩ := h
    exact ⟨_, _, rfl, r, RepDs.set n q h'⟩
theorem RepDs.one {d : D} {v : V} (h : RepD L H al d v) : RepDs L H al [d] [v] := ⟨v, [], rfl, h, rfl⟩
theorem RepDs.nil : RepDs L H al [] [] := by simp [RepDs]
theorem RepDs.cons {d : D} {v : V} {ds : List D} {vs : List V} (h : RepD L H al d v) (r : RepDs L H al ds vs) : RepDs L H al (d :: ds) (v :: vs) := ⟨v, vs, rfl, h, r⟩
theorem RepDs.erase : ∀ {ds : List D} {vs : List V} (n : Nat), RepDs L H al ds vs → RepDs L H al (ds.eraseIdx n) (vs.eraseIdx n)
  | [], _, n, h => by simp only [RepDs] at h; subst h; simp [RepDs]
  | d :: ds, _, 0, h => by
    simp only [RepDs] at h
    obtain ⟨v, us, rfl, r, q⟩ := h
    exact q
  | d :: ds, _, n + 1, h => by
    simp only [RepDs] at h
    obtain ⟨v, us, rfl, r, q⟩ := h
    exact ⟨_, _, rfl, r, RepDs.erase n q⟩
theorem RepDs.reverse : ∀ {ds : List D} {vs : List V}, RepDs L H al ds vs → RepDs L H al ds.reverse vs.reverse
  | [], _, h => by simp only [RepDs] at h; subst h; simp [RepDs]
  | d :: ds, _, h => by
    simp only [RepDs] at h
    obtain ⟨v, us, rfl, r, q⟩ := h
    rw [List.reverse_cons, List.reverse_cons]
    exact (RepDs.reverse q).append (.one r)
theorem RepDs.flat {ds : List D} {vs : List V} (h : RepDs L H al ds vs) : ∀ k : Nat, RepDs L H al (repL ds k) (List.replicate k vs).flatten
  | 0 => by simp [repL, RepDs]
  | k + 1 => by
    have := RepDs.flat h k
    simp only [repL] at this ⊢
    rw [List.replicate_succ, List.replicate_succ, List.flatten_cons, List.flatten_cons]
    exact h.append this
theorem RepDs.ints : ∀ {ns : List Int} {vs : List V}, RepDs L H al (ns.map D.int) vs → vs = ns.map V.int
  | [], _, h => by simpa only [List.map, RepDs] using h
  | n :: ns, _, h => by
    simp only [List.map, RepDs, RepD] at h
    obtain ⟨v, us, rfl, rfl, q⟩ := h
    rw [RepDs.ints q]; rfl
theorem RepDs.ofInts : ∀ (ns : List Int), RepDs L H al (ns.map D.int) (ns.map V.int)
  | [] => by simp [RepDs]
  | n :: ns => ⟨_, _, rfl, by simp [RepD], RepDs.ofInts ns⟩
theorem intsOf_map : ∀ {ds : List D} {ns : List Int}, intsOf ds = some ns → ds = ns.map D.int
  | [], _, h => by simp only [intsOf, Option.some.injEq] at h; subst h; rfl
  | .int i :: ds, ns, h => by
    simp only [intsOf] at h
    cases q : intsOf ds with
    | none => rw [q] at h; cases h
    | some l =>
      rw [q] at h
      simp only [Option.map_some, Option.some.injEq] at h
      subst h
      rw [intsOf_map q]; rfl
  | .non :: _, _, h | .bl _ :: _, _, h | .str _ :: _, _, h | .tup _ :: _, _, h | .lst _ :: _, _, h | .scr _ :: _, _, h | .dic _ _ :: _, _, h | .ins _ _ :: _, _, h => by simp [intsOf] at h
theorem blsOf_map : ∀ {ds : List D} {ns : List Bool}, blsOf ds = some ns → ds = ns.map D.bl
  | [], _, h => by simp only [blsOf, Option.some.injEq] at h; subst h; rfl
  | .bl i :: ds, ns, h => by
    simp only [blsOf] at h
    cases q : blsOf ds with
    | none => rw [q] at h; cases h
    | some l =>
      rw [q] at h
      simp only [Option.map_some, Option.some.injEq] at h
      subst h
      rw [blsOf_map q]; rfl
  | .non :: _, _, h | .int _ :: _, _, h | .str _ :: _, _, h | .tup _ :: _, _, h | .lst _ :: _, _, h | .scr _ :: _, _, h | .dic _ _ :: _, _, h | .ins _ _ :: _, _, h => by simp [blsOf] at h
theorem txsOf_map : ∀ {ds : List D} {ns : List Tx}, txsOf ds = some ns → ds = ns.map D.str
  | [], _, h => by simp only [txsOf, Option.some.injEq] at h; subst h; rfl
  | .str i :: ds, ns, h => by
    simp only [txsOf] at h
    cases q : txsOf ds with
    | none => rw [q] at h; cases h
    | some l =>
      rw [q] at h
      simp only [Option.map_some, Option.some.injEq] at h
      subst h
      rw [txsOf_map q]; rfl
  | .non :: _, _, h | .int _ :: _, _, h | .bl _ :: _, _, h | .tup _ :: _, _, h | .lst _ :: _, _, h | .scr _ :: _, _, h | .dic _ _ :: _, _, h | .ins _ _ :: _, _, h => by simp [txsOf] at h
theorem RepDs.bls : ∀ {ns : List Bool} {vs : List V}, RepDs L H al (ns.map D.bl) vs → vs = ns.map V.bl
  | [], _, h => by simpa only [List.map, RepDs] using h
  | n :: ns, _, h => by
    simp only [List.map, RepDs, RepD] at h
    obtain ⟨v, us, rfl, rfl, q⟩ := h
    rw [RepDs.bls q]; rfl
theorem RepDs.txs : ∀ {ns : List Tx} {vs : List V}, RepDs L H al (ns.map D.str) vs → vs = (ns.map tx).map V.str
  | [], _, h => by simpa only [List.map, RepDs] using h
  | n :: ns, _, h => by
    simp only [List.map, RepDs, RepD] at h
    obtain ⟨v, us, rfl, ⟨rfl, _⟩, q⟩ := h
    rw [RepDs.txs q]; rfl
/-! ### values -/
theorem RepW.step {n : Nat} (st : Step n H al H' al') {w : W} {v : V} (h : RepW L H al w v) (hn : al.length ≤ n) : RepW L H' al' w v := by
  cases w with
  | d x => exact RepD.stay st.keep x v h
  | loc k =>
    obtain ⟨a, e, r⟩ := h
    have hk : k < al.length := (List.getElem?_eq_some_iff.mp e).1
    exact ⟨a, by rw [st.get (Nat.lt_of_lt_of_le hk hn)]; exact e, r⟩
theorem RepWs.step {n : Nat} (st : Step n H al H' al') (hn : al.length ≤ n) : ∀ {ws : List W} {vs : List V}, RepWs L H al ws vs → RepWs L H' al' ws vs
  | [], _, h => h
  | w :: ws, _, h => by
    obtain ⟨v, us, e, r, q⟩ := h
    exact ⟨v, us, e, r.step st hn, RepWs.step st hn q⟩
theorem RepWs.length : ∀ {ds : List W} {vs : List V}, RepWs L H al ds vs → ds.length = vs.length
  | [], _, h => by simp only [RepWs] at h; subst h; rfl
  | d :: ds, _, h => by
    simp only [RepWs] at h
    obtain ⟨v, us, rfl, r, q⟩ := h
    simp [RepWs.length q]
theorem RepWs.cons {d : W} {v : V} {ds : List W} {vs : List V} (h : RepW L H al d v) (r : RepWs L H al ds vs) : RepWs L H al (d :: ds) (v :: vs) := ⟨v, vs, rfl, h, r⟩
theorem RepWs.nil : RepWs L H al [] [] := rfl
theorem RepWs.get : ∀ {ds : List W} {vs : List V} {i : Nat} {d : W}, RepWs L H al ds vs → ds[i]? = some d → ∃ v, vs[i]? = some v ∧ RepW L H al d v
  | [], _, _, _, _, e => by simp at e
  | d :: ds, _, 0, x, h, e => by
    simp only [RepWs] at h
    obtain ⟨v, us, rfl, r, q⟩ := h
    simp at e; subst e
    exact ⟨v, rfl, r⟩
  | d :: ds, _, i + 1, x, h, e => by
    simp only [RepWs] at h
    obtain ⟨v, us, rfl, r, q⟩ := h
    simpa using RepWs.get q (by simpa using e)
theorem RepWs.dats : ∀ {ws : List W} {vs : List V} {ds : List D}, RepWs L H al ws vs → Ev.dats ws = some ds → RepDs L H al ds vs
  | [], _, _, h, e => by
    simp only [Ev.dats, Option.some.injEq] at e
    subst e
    simpa [RepDs, RepWs] using h
  | .d x :: ws, _, ds, h, e => by
    obtain ⟨v, us, rfl, r, q⟩ := h
    simp only [Ev.dats] at e
    cases z : Ev.dats ws with
    | none => rw [z] at e; cases e
    | some l =>
      rw [z] at e
      simp only [Option.map_some, Option.some.injEq] at e
      subst e
      exact ⟨v, us, rfl, r, RepWs.dats q z⟩
  | .loc _ :: ws, _, _, _, e => by simp [Ev.dats] at e
theorem RelE.step {n : Nat} (st : Step n H al H' al') (hn : al.length ≤ n) {env : Env} {σ : St} (h : RelE L H al env σ) : RelE L H' al' env σ :=
  ⟨h.len, fun i w e => let ⟨v, q, r⟩ := h.at_ i w e; ⟨v, q, r.step st hn⟩⟩
theorem RelE.set {env : Env} {σ : St} {i : Nat} {w : W} {v : V} (h : RelE L H al env σ) (r : RepW L H al w v) : RelE L H al (env.set i (some w)) (σ.set i (some v)) := by
  refine ⟨by simp [h.len], fun j u e => ?_⟩
  by_cases hj : i = j
  · subst hj
    by_cases hi : i < env.length
    · rw [List.getElem?_set_self hi] at e
      cases e
      exact ⟨v, by rw [List.getElem?_set_self (by rw [← h.len]; exact hi)], r⟩
    · rw [List.getElem?_eq_none (by simp; omega)] at e
      cases e
  · rw [List.getElem?_set_ne hj] at e
    rw [List.getElem?_set_ne hj]
    exact h.at_ j u e
theorem RelE.unset {env : Env} {σ : St} {i : Nat} (h : RelE L H al env σ) (o : Option V) : RelE L H al (env.set i none) (σ.set i o) := by
  refine ⟨by simp [h.len], fun j u e => ?_⟩
  by_cases hj : i = j
  · subst hj
    by_cases hi : i < env.length
    · rw [List.getElem?_set_self hi] at e
      cases e
    · rw [List.getElem?_eq_none (by simp; omega)] at e
      cases e
  · rw [List.getElem?_set_ne hj] at e
    rw [List.getElem?_set_ne hj]
    exact h.at_ j u e
theorem RelE.wipe {env : Env} {σ : St} (h : RelE L H al env σ) : ∀ vs : List Nat, RelE L H al (Ev.wipe vs env) (L2.wipe σ vs)
  | [] => h
  | v :: vs => (RelE.wipe h vs).unset none
/-! ### the store -/
theorem RelS.there {S : Store} (h : RelS L H S al) {a : Addr} (m : a ∈ al) : ∃ o, H a = some o := by
  obtain ⟨i, hi, e⟩ := List.mem_iff_getElem.mp m
  have h1 : al[i]? = some a := List.getElem?_eq_some_iff.mpr ⟨hi, e⟩
  have hS : i < S.length := by rw [← h.len]; exact hi
  have q := h.obj i a S[i] h1 (List.getElem?_eq_some_iff.mpr ⟨hS, rfl⟩)
  cases z : S[i] with
  | lst ds => rw [z] at q; obtain ⟨vs, e, _⟩ := q; exact ⟨_, e⟩
  | dic _ _ => rw [z] at q; obtain ⟨kvs, e, _⟩ := q; exact ⟨_, e⟩
  | ins c fs => rw [z] at q; obtain ⟨dx, fvs, e, _⟩ := q; exact ⟨_, e⟩
  | hid ds => rw [z] at q; obtain ⟨vs, e, _⟩ := q; exact ⟨_, e⟩
theorem RelS.fresh {S : Store} (h : RelS L H S al) {p : Addr} (e : H p = none) : p ∉ al := fun m => by
  obtain ⟨o, q⟩ := h.there m
  rw [e] at q; cases q
theorem RelS.empty : RelS L H [] [] := ⟨rfl, List.nodup_nil, fun i a o e => by simp at e⟩
/-- all that is tracked stays -/
theorem RelS.kept {S : Store} (h : RelS L H S al) (k : ∀ a o, H a = some o → H' a = some o) : RelS L H' S al := by
  refine ⟨h.len, h.nd, fun i a o e1 e2 => ?_⟩
  have q := h.obj i a o e1 e2
  have kk : ∀ a o, H a = some o → a ∉ al → H' a = some o ∧ a ∉ al := fun a o e m => ⟨k a o e, m⟩
  cases o with
  | lst ds => obtain ⟨vs, e, r⟩ := q; exact ⟨vs, k _ _ e, r.stay kk⟩
  | dic _ _ => obtain ⟨kvs, e, f, r⟩ := q; exact ⟨kvs, k _ _ e, f, r.stay kk⟩
  | ins c fs => obtain ⟨dx, fvs, e, f, r⟩ := q; exact ⟨dx, fvs, k _ _ e, f, r.stay kk⟩
  | hid ds => obtain ⟨vs, e, r⟩ := q; exact ⟨vs, k _ _ e, r.stay kk⟩
theorem keep_upd {p : Addr} {o : HO} (e : H p = none) : ∀ a u, H a = some u → upd H p o a = some u := fun a u q => by
  rw [upd_ne (ne_of_none q e)]; exact q
theorem Step.kept {n : Nat} (h : n ≤ al.length) (k : ∀ a o, H a = some o → H' a = some o) : Step n H al H' al := ⟨rfl, h, h, fun a o e m => ⟨k a o e, m⟩⟩
/-- a new object of the store -/
theorem RelS.push {S : Store} (h : RelS L H S al) {p : Addr} {o : HO} {so : SO} (e : H p = none) (k : ∀ a u, H a = some u → H' a = some u) (r : RepO L H' (al ++ [p]) p so) :
    RelS L H' (S ++ [so]) (al ++ [p]) := by
  have hp := h.fresh e
  refine ⟨by simp [h.len], List.nodup_append.mpr ⟨h.nd, by simp, fun a ha b hb => by simp at hb; subst hb; intro z; subst z; exact hp ha⟩, fun i a u e1 e2 => ?_⟩
  have kk : ∀ a o, H a = some o → a ∉ al → H' a = some o ∧ a ∉ al ++ [p] := fun a o e' m => ⟨k a o e', by
    simp only [List.mem_append, List.mem_singleton, not_or]
    exact ⟨m, fun z => by subst z; rw [e] at e'; cases e'⟩⟩
  by_cases hi : i < al.length
  · rw [List.getElem?_append_left hi] at e1
    rw [List.getElem?_append_left (by rw [← h.len]; exact hi)] at e2
    have q := h.obj i a u e1 e2
    cases u with
    | lst ds => obtain ⟨vs, e, r⟩ := q; exact ⟨vs, k _ _ e, r.stay kk⟩
    | dic _ _ => obtain ⟨kvs, e, f, r⟩ := q; exact ⟨kvs, k _ _ e, f, r.stay kk⟩
    | ins c fs => obtain ⟨dx, fvs, e, f, r⟩ := q; exact ⟨dx, fvs, k _ _ e, f, r.stay kk⟩
    | hid ds => obtain ⟨vs, e, r⟩ := q; exact ⟨vs, k _ _ e, r.stay kk⟩
  · have hi' : i = al.length := by
      have := (List.getElem?_eq_some_iff.mp e1).1
      simp at this
      omega
    subst hi'
    rw [List.getElem?_append_right (Nat.le_refl _), Nat.sub_self] at e1
    rw [h.len, List.getElem?_append_right (Nat.le_refl _), Nat.sub_self] at e2
    simp at e1 e2
    subst e1 e2
    exact r
theorem Step.push {n : Nat} {p : Addr} (h : n ≤ al.length) (e : H p = none) (k : ∀ a u, H a = some u → H' a = some u) : Step n H al H' (al ++ [p]) :=
  ⟨by rw [List.take_append_of_le_length h], h, by simp; omega, fun a o q m => ⟨k a o q, by
    simp only [List.mem_append, List.mem_singleton, not_or]
    exact ⟨m, fun z => by subst z; rw [e] at q; cases q⟩⟩⟩
/-- an object of the store is changed -/
theorem RelS.write {S : Store} (h : RelS L H S al) {i : Nat} {a : Addr} {so : SO} (e : al[i]? = some a) (k : ∀ b u, b ≠ a → H b = some u → H' b = some u) (r : RepO L H' al a so) :
    RelS L H' (S.set i so) al := by
  have ha : a ∈ al := List.mem_of_getElem? e
  refine ⟨by simp [h.len], h.nd, fun j b u e1 e2 => ?_⟩
  have kk : ∀ b o, H b = some o → b ∉ al → H' b = some o ∧ b ∉ al := fun b o q m => ⟨k b o (fun z => m (z ▸ ha)) q, m⟩
  by_cases hj : i = j
  · subst hj
    have hi : i < S.length := by rw [← h.len]; exact (List.getElem?_eq_some_iff.mp e).1
    rw [List.getElem?_set_self hi] at e2
    rw [e] at e1
    cases e1; cases e2
    exact r
  · rw [List.getElem?_set_ne hj] at e2
    have hb : b ≠ a := fun z => by
      subst z
      obtain ⟨h1, e1'⟩ := List.getElem?_eq_some_iff.mp e1
      obtain ⟨h2, e2'⟩ := List.getElem?_eq_some_iff.mp e
      exact hj ((List.getElem_inj h.nd).mp (e2'.trans e1'.symm))
    have q := h.obj j b u e1 e2
    cases u with
    | lst ds => obtain ⟨vs, e, r⟩ := q; exact ⟨vs, k _ _ hb e, r.stay kk⟩
    | dic _ _ => obtain ⟨kvs, e, f, r⟩ := q; exact ⟨kvs, k _ _ hb e, f, r.stay kk⟩
    | ins c fs => obtain ⟨dx, fvs, e, f, r⟩ := q; exact ⟨dx, fvs, k _ _ hb e, f, r.stay kk⟩
    | hid ds => obtain ⟨vs, e, r⟩ := q; exact ⟨vs, k _ _ hb e, r.stay kk⟩
theorem Step.write {n : Nat} {a : Addr} (h : n ≤ al.length) (ha : a ∈ al) (k : ∀ b u, b ≠ a → H b = some u → H' b = some u) : Step n H al H' al :=
  ⟨rfl, h, h, fun b o q m => ⟨k b o (fun z => m (z ▸ ha)) q, m⟩⟩
/-- the store's later objects forgotten -/
theorem RelS.cutTo {S : Store} (h : RelS L H S al) (n : Nat) : RelS L H (S.take n) (al.take n) := by
  refine ⟨by simp [h.len], h.nd.sublist (List.take_sublist _ _), fun i a o e1 e2 => ?_⟩
  have hi : i < n := by
    have := (List.getElem?_eq_some_iff.mp e1).1
    simp at this; omega
  rw [List.getElem?_take_of_lt hi] at e1 e2
  have q := h.obj i a o e1 e2
  have kk : ∀ b u, H b = some u → b ∉ al → H b = some u ∧ b ∉ al.take n := fun b u e m => ⟨e, fun z => m (List.mem_of_mem_take z)⟩
  cases o with
  | lst ds => obtain ⟨vs, e, r⟩ := q; exact ⟨vs, e, r.stay kk⟩
  | dic _ _ => obtain ⟨kvs, e, f, r⟩ := q; exact ⟨kvs, e, f, r.stay kk⟩
  | ins c fs => obtain ⟨dx, fvs, e, f, r⟩ := q; exact ⟨dx, fvs, e, f, r.stay kk⟩
  | hid ds => obtain ⟨vs, e, r⟩ := q; exact ⟨vs, e, r.stay kk⟩
theorem Step.cutTo {n m : Nat} (h : n ≤ m) (hm : m ≤ al.length) : Step n H al H (al.take m) :=
  ⟨by rw [List.take_take, Nat.min_eq_left h], by omega, by simp; omega, fun a o e k => ⟨e, fun z => k (List.mem_of_mem_take z)⟩⟩
theorem not_mem_take {l : List Addr} {n : Nat} {a : Addr} (nd : l.Nodup) (e : l[n]? = some a) : a ∉ l.take n := fun m => by
  obtain ⟨i, hi, q⟩ := List.mem_iff_getElem.mp m
  obtain ⟨hn, e'⟩ := List.getElem?_eq_some_iff.mp e
  rw [List.getElem_take] at q
  have := (List.getElem_inj nd).mp (q.trans e'.symm)
  simp at hi
  omega
end
mutual
theorem conB_ok {L : Lay} {H : Hp} {al : List Addr} : ∀ {d : D} {u : Value}, conB L.K d u = true → ∀ v, absV u = some v → RelV v u ∧ RepD L H al d v
  | .non, u, h, v, e => by
    cases u <;> simp only [conB, Bool.false_eq_true] at h
    cases e
    exact ⟨rfl, by simp [RepD]⟩
  | .bl b, u, h, v, e => by
    cases u <;> simp only [conB, Bool.false_eq_true] at h
    cases e
    rw [eq_of_beq h]
    exact ⟨rfl, by simp [RepD]⟩
  | .int i, u, h, v, e => by
    cases u <;> simp only [conB, Bool.false_eq_true] at h
    cases e
    rw [eq_of_beq h]
    exact ⟨⟨_, rfl⟩, by simp [RepD]⟩
  | .str s, u, h, v, e => by
    cases u <;> simp only [conB, Bool.false_eq_true, Bool.and_eq_true, decide_eq_true_eq] at h
    cases e
    obtain ⟨rfl, hl⟩ := h
    exact ⟨⟨_, rfl⟩, by simp only [RepD]; exact ⟨trivial, hl⟩⟩
  | .tup ds, u, h, v, e => by
    cases u with
    | ref a =>
      cases e
      simp only [conB] at h
      cases q : L.K.lookup a with
      | none => rw [q] at h; cases h
      | some o =>
        obtain ⟨oc, od, dt, osl⟩ := o
        rw [q] at h
        cases oc with
        | type c =>
          cases dt with
          | seq its n =>
            simp only [Bool.and_eq_true, decide_eq_true_eq] at h
            obtain ⟨⟨rfl, hz⟩, hr⟩ := h
            obtain ⟨vs, rv, rd⟩ := conBs_ok (H := H) (al := al) hr
            refine ⟨rfl, ?_⟩
            simp only [RepD]
            exact ⟨a, vs, rfl, .inr ⟨_, its, n, q, rfl, rfl, hz, rv⟩, rd⟩
          | _ => cases h
        | _ => cases dt <;> cases h
    | _ => simp [conB] at h
  | .lst _, u, h, _, _ | .scr _, u, h, _, _ | .dic _ _, u, h, _, _ | .ins _ _, u, h, _, _ => by simp [conB] at h
theorem conBs_ok {L : Lay} {H : Hp} {al : List Addr} : ∀ {ds : List D} {us : List Value}, conBs L.K ds us = true → ∃ vs, Vals vs us ∧ RepDs L H al ds vs
  | [], [], _ => ⟨[], .nil, .nil⟩
  | [], _ :: _, h => by simp [conBs] at h
  | _ :: _, [], h => by simp [conBs] at h
  | d :: ds, u :: us, h => by
    simp only [conBs, Bool.and_eq_true] at h
    have hv : ∃ v, absV u = some v := by
      cases d <;> cases u <;> first | exact ⟨_, rfl⟩ | (simp [conB] at h)
    obtain ⟨v, hv⟩ := hv
    obtain ⟨r1, r2⟩ := conB_ok (H := H) (al := al) h.1 v hv
    obtain ⟨vs, r3, r4⟩ := conBs_ok (H := H) (al := al) h.2
    exact ⟨v :: vs, .cons r1 r3, .cons r2 r4⟩
end
theorem conB_abs {K : PySem.W.Frag} {d : D} {u : Value} (h : conB K d u = true) : ∃ v, absV u = some v := by
  cases d <;> cases u <;> first | exact ⟨_, rfl⟩ | (simp [conB] at h)

/-! ### dicts of the module -/
theorem look_dic {K : PySem.W.Frag} {z : Tx} : ∀ {ks vs : List D} {es : List DictEntry}, dicB K ks vs es = true →
    (es.any (·.refKey)) = false ∧ ((lookD ks vs z = none ∧ es.find? (·.key.isStr (tx z)) = none) ∨ ∃ d e, lookD ks vs z = some d ∧ es.find? (·.key.isStr (tx z)) = some e ∧ conB K d e.val = true)
  | [], [], [], _ => ⟨rfl, .inl ⟨rfl, rfl⟩⟩
  | .str k :: ks, v :: vs, e :: es, h => by
    simp only [dicB, Bool.and_eq_true, decide_eq_true_eq] at h
    obtain ⟨⟨⟨h1, h2⟩, h3⟩, h4⟩ := h
    obtain ⟨r, ih⟩ := look_dic (z := z) h4
    have hk : ∃ t, e.key = .str (tx k) t := by
      cases q : e.key <;> rw [q] at h1 <;> simp only [Value.isStr, Bool.false_eq_true] at h1
      rw [eq_of_beq h1]
      exact ⟨_, rfl⟩
    obtain ⟨t, hk⟩ := hk
    refine ⟨?_, ?_⟩
    · rw [List.any_cons, r]
      simp [DictEntry.refKey, hk]
    · by_cases hz : k = z
      · subst hz
        exact .inr ⟨v, e, by simp [lookD], by rw [List.find?_cons, h1], h2⟩
      · have hb : e.key.isStr (tx z) = false := by
          rw [hk]
          show (tx k == tx z) = false
          refine beq_eq_false_iff_ne.mpr fun q => hz ?_
          have := congrArg (fun s : Str => s.cps.toList) q
          simpa [tx] using this
        rw [List.find?_cons, hb]
        rw [show lookD (.str k :: ks) (v :: vs) z = lookD ks vs z by simp [lookD, hz]]
        exact ih
  | [], [], _ :: _, h | [], _ :: _, _, h => by simp [dicB] at h
  | .str _ :: _, [], _, h | .str _ :: _, _ :: _, [], h => by simp [dicB] at h
  | .non :: _, _, _, h | .bl _ :: _, _, _, h | .int _ :: _, _, _, h | .tup _ :: _, _, _, h | .lst _ :: _, _, _, h | .scr _ :: _, _, _, h | .dic _ _ :: _, _, _, h | .ins _ _ :: _, _, _, h => by simp [dicB] at h
theorem KDic.look {K : PySem.W.Frag} {w : World} {a : Addr} {ks vs : List D} (h : KDic K w a ks vs) (z : Tx) : ∃ es n, KDict K w a es n ∧ ((lookD ks vs z = none ∧ PySem.W.nsIn K a (tx z) = some none) ∨ ∃ d u, lookD ks vs z = some d ∧ PySem.W.nsIn K a (tx z) = some (some u) ∧ conB K d u = true) := by
  obtain ⟨es, n, D, hb⟩ := h
  refine ⟨es, n, D, ?_⟩
  obtain ⟨r, q⟩ := look_dic (z := z) hb
  unfold PySem.W.nsIn
  rw [D.at_]
  simp only
  rcases q with ⟨q1, q2⟩ | ⟨d, e, q1, q2, q3⟩
  · rw [q2, r]
    exact .inl ⟨q1, rfl⟩
  · rw [q2]
    exact .inr ⟨d, e.val, q1, rfl, q3⟩

/-! ### dicts of the heap -/
theorem tx_inj' {s t : Tx} (h : tx s = tx t) : s = t := by
  have := congrArg (fun z : Str => z.cps.toList) h
  simpa [tx] using this
theorem dic_split {k : D} {ks : List D} {kvs : List (L2.Key × V)} (h : DicR (k :: ks) kvs) : ∃ q r, kvs = q :: r ∧ keyD k = some q.1 ∧ DicR ks r := by
  unfold DicR at h
  cases kvs with
  | nil => simp at h
  | cons q r =>
    simp only [List.map_cons, List.cons.injEq] at h
    exact ⟨q, r, rfl, h.1, h.2⟩
section
variable {L : Lay} {H : Hp} {al : List Addr}
theorem dic_lookD {z : Tx} : ∀ {ks vs : List D} {kvs : List (L2.Key × V)}, DicR ks kvs → RepDs L H al vs (kvs.map (·.2)) → (lookD ks vs z = none ∧ L2.valV kvs (.inr (tx z)) = none) ∨ ∃ d v, lookD ks vs z = some d ∧ L2.valV kvs (.inr (tx z)) = some v ∧ RepD L H al d v
  | [], vs, kvs, hd, hr => by
    have : kvs = [] := by
      unfold DicR at hd
      cases kvs with
      | nil => rfl
      | cons _ _ => simp at hd
    subst this
    exact .inl ⟨by cases vs <;> rfl, rfl⟩
  | k :: ks, vs, kvs, hd, hr => by
    obtain ⟨q, r, rfl, e1, e2⟩ := dic_split hd
    cases vs with
    | nil => simp [RepDs] at hr
    | cons y vs =>
      simp only [List.map_cons, RepDs] at hr
      obtain ⟨v, us, e, r1, r2⟩ := hr
      simp only [List.cons.injEq] at e
      obtain ⟨rfl, rfl⟩ := e
      have ih := dic_lookD (z := z) e2 r2
      cases k with
      | str s =>
        simp only [keyD, Option.some.injEq] at e1
        by_cases hz : s = z
        · subst hz
          exact .inr ⟨y, q.2, by simp [lookD], by rw [L2.valV_pos e1.symm], r1⟩
        · have hq : ¬ q.1 = .inr (tx z) := by
            rw [← e1]
            intro h
            exact hz (tx_inj' (Sum.inr.inj h))
          rw [L2.valV_neg hq, show lookD (.str s :: ks) (y :: vs) z = lookD ks vs z by simp [lookD, hz]]
          exact ih
      | int i =>
        simp only [keyD, Option.some.injEq] at e1
        have hq : ¬ q.1 = .inr (tx z) := by rw [← e1]; intro h; cases h
        rw [L2.valV_neg hq, show lookD (.int i :: ks) (y :: vs) z = lookD ks vs z by simp [lookD]]
        exact ih
      | _ => simp [keyD] at e1
theorem dic_lookI {z : Int} : ∀ {ks vs : List D} {kvs : List (L2.Key × V)}, DicR ks kvs → RepDs L H al vs (kvs.map (·.2)) → (lookI ks vs z = none ∧ L2.valV kvs (.inl z) = none) ∨ ∃ d v, lookI ks vs z = some d ∧ L2.valV kvs (.inl z) = some v ∧ RepD L H al d v
  | [], vs, kvs, hd, hr => by
    have : kvs = [] := by
      unfold DicR at hd
      cases kvs with
      | nil => rfl
      | cons _ _ => simp at hd
    subst this
    exact .inl ⟨by cases vs <;> rfl, rfl⟩
  | k :: ks, vs, kvs, hd, hr => by
    obtain ⟨q, r, rfl, e1, e2⟩ := dic_split hd
    cases vs with
    | nil => simp [RepDs] at hr
    | cons y vs =>
      simp only [List.map_cons, RepDs] at hr
      obtain ⟨v, us, e, r1, r2⟩ := hr
      simp only [List.cons.injEq] at e
      obtain ⟨rfl, rfl⟩ := e
      have ih := dic_lookI (z := z) e2 r2
      cases k with
      | int s =>
        simp only [keyD, Option.some.injEq] at e1
        by_cases hz : s = z
        · subst hz
          exact .inr ⟨y, q.2, by simp [lookI], by rw [L2.valV_pos e1.symm], r1⟩
        · have hq : ¬ q.1 = .inl z := by
            rw [← e1]
            intro h
            exact hz (Sum.inl.inj h)
          rw [L2.valV_neg hq, show lookI (.int s :: ks) (y :: vs) z = lookI ks vs z by simp [lookI, hz]]
          exact ih
      | str i =>
        simp only [keyD, Option.some.injEq] at e1
        have hq : ¬ q.1 = .inl z := by rw [← e1]; intro h; cases h
        rw [L2.valV_neg hq, show lookI (.str i :: ks) (y :: vs) z = lookI ks vs z by simp [lookI]]
        exact ih
      | _ => simp [keyD] at e1
end
theorem key_some {k : D} (h : isKey k = true) : ∃ q, keyD k = some q := by
  cases k <;> simp [isKey] at h <;> exact ⟨_, rfl⟩
theorem keyEq_dec {a b : D} {p q : L2.Key} (h1 : keyD a = some p) (h2 : keyD b = some q) : keyEq a b = decide (p = q) := by
  cases a <;> simp only [keyD, reduceCtorEq, Option.some.injEq] at h1 <;> cases b <;> simp only [keyD, reduceCtorEq, Option.some.injEq] at h2 <;> subst h1 h2
  · simp [keyEq]
  · simp [keyEq]
  · simp [keyEq]
  · rename_i s t
    show decide (s = t) = _
    by_cases h : s = t
    · subst h; simp
    · rw [decide_eq_false h, decide_eq_false]
      exact fun z => h (tx_inj' (Sum.inr.inj z))
theorem dic_any {k : D} {q : L2.Key} (hk : keyD k = some q) : ∀ {ks : List D} {kvs : List (L2.Key × V)}, DicR ks kvs → (ks.any fun x => keyEq x k) = kvs.any fun kv => decide (kv.1 = q)
  | [], kvs, h => by
    unfold DicR at h
    cases kvs with
    | nil => rfl
    | cons _ _ => simp at h
  | x :: ks, kvs, h => by
    obtain ⟨p, r, rfl, e1, e2⟩ := dic_split h
    rw [List.any_cons, List.any_cons, keyEq_dec e1 hk, dic_any hk e2]
section
variable {L : Lay} {H : Hp} {al : List Addr}
theorem dic_rep {k d : D} {q : L2.Key} {u : V} (hk : keyD k = some q) (ru : RepD L H al d u) : ∀ {ks vs : List D} {kvs : List (L2.Key × V)}, DicR ks kvs → RepDs L H al vs (kvs.map (·.2)) →
    DicR ks (kvs.map fun kv => if kv.1 = q then (kv.1, u) else kv) ∧ RepDs L H al (repV d k ks vs) ((kvs.map fun kv => if kv.1 = q then (kv.1, u) else kv).map (·.2))
  | [], vs, kvs, hd, hr => by
    have : kvs = [] := by
      unfold DicR at hd
      cases kvs with
      | nil => rfl
      | cons _ _ => simp at hd
    subst this
    exact ⟨rfl, by cases vs <;> simp [repV, RepDs]⟩
  | x :: ks, vs, kvs, hd, hr => by
    obtain ⟨p, r, rfl, e1, e2⟩ := dic_split hd
    cases vs with
    | nil => simp [RepDs] at hr
    | cons y vs =>
      simp only [List.map_cons, RepDs] at hr
      obtain ⟨v, us, e, r1, r2⟩ := hr
      simp only [List.cons.injEq] at e
      obtain ⟨rfl, rfl⟩ := e
      obtain ⟨i1, i2⟩ := dic_rep hk ru e2 r2
      have hx := keyEq_dec e1 hk
      constructor
      · unfold DicR at i1 ⊢
        rw [List.map_cons, List.map_cons, List.map_cons, i1, e1]
        by_cases h : p.1 = q <;> simp [h]
      · simp only [repV, List.map_cons]
        refine ⟨_, _, rfl, ?_, i2⟩
        rw [hx]
        by_cases h : p.1 = q <;> simp [h, ru, r1]
theorem dic_put {k d : D} {q : L2.Key} {u : V} (hk : keyD k = some q) (ru : RepD L H al d u) {ks vs : List D} {kvs : List (L2.Key × V)} (hd : DicR ks kvs) (hr : RepDs L H al vs (kvs.map (·.2))) :
    DicR (putD ks vs k d).1 (L2.putK kvs q u) ∧ RepDs L H al (putD ks vs k d).2 ((L2.putK kvs q u).map (·.2)) := by
  unfold putD L2.putK
  rw [dic_any hk hd]
  split
  · exact dic_rep hk ru hd hr
  · constructor
    · unfold DicR at hd ⊢
      rw [List.map_append, List.map_append, hd]
      simp [hk]
    · rw [List.map_append]
      exact hr.append (.one ru)
end
theorem nodupK_ok : ∀ {ks : List D} {kvs : List (L2.Key × V)}, nodupK ks = true → DicR ks kvs → (kvs.map (·.1)).Nodup
  | [], kvs, _, h => by
    unfold DicR at h
    cases kvs with
    | nil => exact List.nodup_nil
    | cons _ _ => simp at h
  | k :: ks, kvs, hn, h => by
    obtain ⟨q, r, rfl, e1, e2⟩ := dic_split h
    simp only [nodupK, Bool.and_eq_true, Bool.not_eq_true'] at hn
    rw [List.map_cons, List.nodup_cons]
    refine ⟨fun hm => ?_, nodupK_ok hn.2 e2⟩
    obtain ⟨p, hp, ep⟩ := List.mem_map.mp hm
    have h1 := hn.1.2
    rw [List.any_eq_false] at h1
    have hmem : some p.1 ∈ ks.map keyD := by rw [e2]; exact List.mem_map.mpr ⟨p, hp, rfl⟩
    obtain ⟨x, hx, ex⟩ := List.mem_map.mp hmem
    have := h1 x hx
    rw [keyEq_dec e1 ex, ep] at this
    simp at this
theorem merge_nodup : ∀ (kvs acc : List (L2.Key × V)), ((acc ++ kvs).map (·.1)).Nodup → L2.mergeK acc kvs = acc ++ kvs
  | [], acc, _ => by simp [L2.mergeK]
  | q :: r, acc, h => by
    have hn : L2.valV acc q.1 = none := by
      rw [List.map_append, List.map_cons, List.nodup_append] at h
      have h3 := h.2.2
      unfold L2.valV
      rw [Option.map_eq_none_iff, List.find?_eq_none]
      intro p hp
      have := h3 p.1 (List.mem_map.mpr ⟨p, hp, rfl⟩) q.1 (by simp)
      simpa using this
    show L2.mergeK (L2.putK acc q.1 q.2) r = _
    rw [L2.putK_new _ hn, merge_nodup r _ (by simpa using h)]
    simp
theorem merge_nil {kvs : List (L2.Key × V)} (h : (kvs.map (·.1)).Nodup) : L2.mergeK [] kvs = kvs := merge_nodup kvs [] (by simpa using h)
theorem nodupK_keys : ∀ {ks : List D}, nodupK ks = true → ∃ qs : List L2.Key, ks.map keyD = qs.map some
  | [], _ => ⟨[], rfl⟩
  | k :: ks, h => by
    simp only [nodupK, Bool.and_eq_true] at h
    obtain ⟨q, hq⟩ := key_some h.1.1
    obtain ⟨qs, e⟩ := nodupK_keys h.2
    exact ⟨q :: qs, by simp [hq, e]⟩
end Ev
end
section
/-! EvC1: the operations' rules over data. Own work. -/
set_option linter.all false
set_option autoImplicit false
set_option maxRecDepth 100000
set_option maxHeartbeats 1000000
namespace Ev
open PySem PySem.Spec PyProof.Rows L2

/-- data as it is read: the list of an object of the store too -/
def RT (L : Lay) (H : Hp) (al : List Addr) : D → V → Prop
  | .lst ds, v => ∃ a vs, v = .ref a ∧ H a = some (.lst vs) ∧ RepDs L H al ds vs
  | .dic ks vs, v => ∃ a, v = .ref a ∧ (KDic L.K L.w a ks vs ∨ ∃ kvs, H a = some (.dK kvs) ∧ DicR ks kvs ∧ RepDs L H al vs (kvs.map (·.2)))
  | d, v => RepD L H al d v
section
variable {L : Lay} {H H' : Hp} {al al' : List Addr}
theorem RepD.rt {d : D} {v : V} (h : RepD L H al d v) : RT L H al d v := by
  cases d with
  | lst ds => simp only [RepD] at h; obtain ⟨a, vs, e, q, m, r⟩ := h; exact ⟨a, vs, e, q, r⟩
  | dic ks vs => simp only [RepD] at h; obtain ⟨a, e, q⟩ := h; exact ⟨a, e, q.imp id fun ⟨kvs, q, _, d, r⟩ => ⟨kvs, q, d, r⟩⟩
  | _ => exact h
theorem RepW.rt {S : Store} {w : W} {v : V} {x : D} (h : RepW L H al w v) (s : RelS L H S al) (e : rd S w = some x) : RT L H al x v := by
  cases w with
  | d y => simp only [rd, Option.some.injEq] at e; subst e; exact RepD.rt h
  | loc n =>
    obtain ⟨a, e1, rfl⟩ := h
    simp only [rd] at e
    cases z : S[n]? with
    | none => rw [z] at e; cases e
    | some o =>
      rw [z] at e
      have q := s.obj n a o e1 z
      cases o with
      | lst ds =>
        simp only [Option.bind_some, rdS, Option.some.injEq] at e
        subst e
        obtain ⟨vs, e2, r⟩ := q
        exact ⟨a, vs, rfl, e2, r⟩
      | dic ks vs =>
        simp only [Option.bind_some, rdS, Option.some.injEq] at e
        subst e
        obtain ⟨kvs, e2, d, r⟩ := q
        exact ⟨a, rfl, .inr ⟨kvs, e2, d, r⟩⟩
      | ins _ _ => simp [rdS] at e
      | hid _ => simp [rdS] at e
theorem RT.dic {ks vs : List D} {v : V} (h : RT L H al (.dic ks vs) v) : ∃ a, v = .ref a ∧ (KDic L.K L.w a ks vs ∨ ∃ kvs, H a = some (.dK kvs) ∧ DicR ks kvs ∧ RepDs L H al vs (kvs.map (·.2))) := h
theorem RT.lst {ds : List D} {v : V} (h : RT L H al (.lst ds) v) : ∃ a vs, v = .ref a ∧ H a = some (.lst vs) ∧ RepDs L H al ds vs := h
theorem RT.tup {ds : List D} {v : V} (h : RT L H al (.tup ds) v) : ∃ a vs, v = .ref a ∧ SqT L.K H a vs ∧ RepDs L H al ds vs := by
  simp only [RT, RepD] at h
  obtain ⟨a, vs, e, q, r⟩ := h
  exact ⟨a, vs, e, q.elim (fun z => .inl (.inl z.1)) .inr, r⟩
theorem RT.int {i : Int} {v : V} (h : RT L H al (.int i) v) : v = .int i := by simpa only [RT, RepD] using h
theorem RT.bl {i : Bool} {v : V} (h : RT L H al (.bl i) v) : v = .bl i := by simpa only [RT, RepD] using h
theorem RT.strL {i : Tx} {v : V} (h : RT L H al (.str i) v) : v = .str (tx i) ∧ i.length ≤ lim := by simpa only [RT, RepD] using h
theorem RT.str {i : Tx} {v : V} (h : RT L H al (.str i) v) : v = .str (tx i) := h.strL.1
theorem RT.non {v : V} (h : RT L H al .non v) : v = .non := by simpa only [RT, RepD] using h
theorem RT.scr {ns : List Int} {v : V} (h : RT L H al (.scr ns) v) : ∃ a, v = .ref a ∧ SqL L.K H a (ns.map V.int) := by
  simp only [RT, RepD] at h
  obtain ⟨a, e, q⟩ := h
  refine ⟨a, e, q.elim (fun ⟨o, z, _, w⟩ => ?_) .inr⟩
  rcases w with rfl | ⟨ob, rfl⟩
  · exact .inl (.inl z)
  · exact .inl (.inr ⟨ob, z⟩)
theorem tx_len (s : Tx) : (tx s).length = s.length := by simp [tx, Str.length]
theorem tx_list (s : Tx) : (tx s).cps.toList = s := by simp [tx]
theorem tx_app (s t : Tx) : tx s ++ tx t = tx (s ++ t) := by
  show Str.append (tx s) (tx t) = _
  simp [tx, Str.append]
theorem tx_inj {s t : Tx} (h : tx s = tx t) : s = t := by
  have := congrArg (fun z : Str => z.cps.toList) h
  simpa [tx] using this
theorem lim_line : lim ≤ sizeLine := by rw [sizeLine_eq]; decide

end
/-- an operation on data, by the state (S, al) -/
structure OpS (L : Lay) (H : Hp) (S : Store) (al : List Addr) (z : D) (Q : VK) : Prop where
  rs : RelS L H S al
  go : ∀ H' v, (∀ a o, H a = some o → H' a = some o) → RepD L H' al z v → Q v H'
section
variable {L : Lay} {H : Hp} {S : Store} {al : List Addr} {Q : VK}
theorem OpS.same {z : D} (g : OpS L H S al z Q) {v : V} (h : RepD L H al z v) : Q v H := g.go H v (fun _ _ e => e) h
theorem OpS.int {i : Int} (g : OpS L H S al (.int i) Q) : Q (.int i) H := g.same (by simp [RepD])
theorem OpS.bl {i : Bool} (g : OpS L H S al (.bl i) Q) : Q (.bl i) H := g.same (by simp [RepD])
theorem OpS.str {i : Tx} (g : OpS L H S al (.str i) Q) (h : i.length ≤ lim) : Q (.str (tx i)) H := g.same (by simp only [RepD]; exact ⟨trivial, h⟩)
theorem OpS.non (g : OpS L H S al .non Q) : Q .non H := g.same (by simp [RepD])
theorem OpS.newL {ds : List D} (g : OpS L H S al (.lst ds) Q) {vs : List V} {p : Addr} (hp : H p = none) (r : RepDs L H al ds vs) : Q (.ref p) (upd H p (.lst vs)) := by
  refine g.go _ _ (keep_upd hp) ?_
  simp only [RepD]
  exact ⟨p, vs, rfl, upd_same, g.rs.fresh hp, r.stay fun a o e m => ⟨keep_upd hp a o e, m⟩⟩
theorem OpS.newT {ds : List D} (g : OpS L H S al (.tup ds) Q) {vs : List V} {p : Addr} (hp : H p = none) (r : RepDs L H al ds vs) : Q (.ref p) (upd H p (.tup vs)) := by
  refine g.go _ _ (keep_upd hp) ?_
  simp only [RepD]
  exact ⟨p, vs, rfl, .inl ⟨upd_same, g.rs.fresh hp⟩, r.stay fun a o e m => ⟨keep_upd hp a o e, m⟩⟩
end

/-! ### operators -/
def rOp (L : Lay) (f : D → D → Option D) : R2 := fun x y H Q => ∃ u v z S al, RT L H al u x ∧ RT L H al v y ∧ f u v = some z ∧ OpS L H S al z Q
section
variable {L : Lay} {X : Cx}
theorem or_sub : OpR X (binaryOp .Sub) (rOp L (bin .sub)) := by
  intro pins s σ H x y v u Q I rx ry h
  obtain ⟨a, b, z, S, al, ra, rb, e, g⟩ := h
  cases a <;> cases b <;> simp only [bin, Option.some.injEq, reduceCtorEq] at e
  subst e
  exact op_sub pins s σ H x y v u Q I rx ry ⟨_, _, ra.int, rb.int, g.int⟩
theorem or_add (hK : L.K = X.K) : OpR X (binaryOp .Add) (rOp L (bin .add)) := by
  intro pins s σ H x y v u Q I rx ry h
  obtain ⟨a, b, z, S, al, ra, rb, e, g⟩ := h
  cases a <;> cases b <;> simp only [bin, Option.some.injEq, reduceCtorEq, Option.ite_none_right_eq_some] at e
  · subst e
    exact op_add pins s σ H x y v u Q I rx ry ⟨_, _, ra.int, rb.int, g.int⟩
  · obtain ⟨hl, rfl⟩ := e
    refine op_add_str pins s σ H x y v u Q I rx ry ⟨_, _, ra.str, rb.str, ?_, ?_⟩
    · rw [tx_len, tx_len]; exact Nat.le_trans hl lim_line
    · rw [tx_app]; exact g.str (by rw [List.length_append]; exact hl)
  · obtain ⟨hl, rfl⟩ := e
    obtain ⟨p, ps, rfl, hp, rp⟩ := ra.tup
    obtain ⟨q, qs, rfl, hq, rq⟩ := rb.tup
    refine op_catA pins s σ H _ _ v u Q I rx ry ⟨p, q, ps, qs, rfl, rfl, hK ▸ hp, hK ▸ hq, ?_, fun z => ?_, fun _ z => ?_, fun _ _ t ht => g.newT ht (rp.append rq)⟩
    · rw [← rp.length, ← rq.length]; exact Nat.le_trans hl lim_line
    · subst z
      have hz := rp.length
      simp at hz
      subst hz
      refine g.same ?_
      simp only [List.nil_append]
      have rb' := rb
      simp only [RT] at rb'
      exact rb'
    · subst z
      have hz := rq.length
      simp at hz
      subst hz
      refine g.same ?_
      simp only [List.append_nil]
      have ra' := ra
      simp only [RT] at ra'
      exact ra'
  · obtain ⟨hl, rfl⟩ := e
    obtain ⟨p, ps, rfl, hp, rp⟩ := ra
    obtain ⟨q, qs, rfl, hq, rq⟩ := rb
    refine op_cat pins s σ H _ _ v u Q I rx ry ⟨p, q, ps, qs, rfl, rfl, hp, hq, ?_, fun t ht => g.newL ht (rp.append rq)⟩
    rw [← rp.length, ← rq.length]; exact Nat.le_trans hl lim_line
theorem mulOk_c {i j : Int} (h : mulOk i j = true) : CMul i j ∨ CMulW i j := by
  simp only [mulOk, Bool.or_eq_true, Bool.and_eq_true, decide_eq_true_eq] at h
  rcases h with (h | h) | h
  · exact .inl (.inl h)
  · exact .inl (.inr h)
  · exact .inr (wide_mul h.1 h.2 (by decide) (by decide) (by decide))
theorem repL_tx (s : Tx) (k : Nat) : (⟨(List.replicate k (tx s).cps).foldl (· ++ ·) #[]⟩ : Str) = tx (repL s k) := by
  have : ∀ (k : Nat) (acc : List Nat), (List.replicate k (s.toArray)).foldl (· ++ ·) acc.toArray = (acc ++ repL s k).toArray := by
    intro k
    induction k with
    | zero => intro acc; simp [repL]
    | succ k ih =>
      intro acc
      rw [List.replicate_succ, List.foldl_cons]
      have e : acc.toArray ++ s.toArray = (acc ++ s).toArray := by simp
      rw [e, ih (acc ++ s)]
      simp [repL, List.replicate_succ]
  have h := this k []
  simp only [List.nil_append] at h
  show (⟨(List.replicate k s.toArray).foldl (· ++ ·) #[]⟩ : Str) = tx (repL s k)
  rw [h]; rfl
theorem repL_len {α : Type} (s : List α) (k : Nat) : (repL s k).length = s.length * k := by
  induction k with
  | zero => simp [repL]
  | succ k ih =>
    simp only [repL] at ih ⊢
    rw [List.replicate_succ, List.flatten_cons, List.length_append, ih, Nat.mul_succ]
    omega
theorem mul_tx {pins : List (Addr × Obj)} {s : Shared} {σ : L2.St} {H : Hp} {Q : VK} {b : Tx} {k : Int} {t u : Tok} (I : Inv X pins σ H s) (h1 : b.length * k.toNat ≤ lim) (h2 : -(2 ^ 63) ≤ k) (h3 : k < 2 ^ 63) (q : Q (.str (tx (repL b k.toNat))) H) :
    wpAny (model X.prog X.w) X.A (binaryOp .Mult (.str (tx b) t) (.int k u)) (EP X pins σ Q) X.xe s := by
  have hlim : lim = 4000000 := rfl
  have hprod : (tx b).length * k.toNat ≤ 4000000 := by rw [tx_len]; omega
  refine P.mul_str (by rw [decide_eq_false (by omega), decide_eq_false (by omega)]; rfl) (fun h h' => ?_) (fun h _ => ?_) ?_
  · have hk : 1 ≤ k := by omega
    have h0 : ¬ ((tx b).length == 0) = true := by
      intro z; rw [z, Bool.or_true] at h'; cases h'
    intro hgt
    have h4 : ((tx b).length : Int) * k ≤ 4000000 := by
      have e : ((k.toNat : Nat) : Int) = k := Int.toNat_of_nonneg (by omega)
      have h9 : (((tx b).length * k.toNat : Nat) : Int) ≤ ((4000000 : Nat) : Int) := Int.ofNat_le.mpr hprod
      rw [Int.natCast_mul, e] at h9
      exact h9
    have h5 : (2 ^ 63 - 1) / k < ((tx b).length : Int) := hgt
    have h6 : (2 ^ 63 - 1 : Int) < ((tx b).length : Int) * k := by
      have := (Int.ediv_lt_iff_lt_mul (by omega : (0 : Int) < k)).mp h5
      exact this
    omega
  · unfold Builtin.Str.tooLong
    rw [sizeLine_eq]
    exact decide_eq_false (by omega)
  · by_cases hk : k < 1
    · rw [if_pos hk]
      have : k.toNat = 0 := by omega
      rw [this] at q
      exact ⟨by decide, ⟨.str (tx (repL b 0)), H, I.tok _, ⟨_, rfl⟩, q⟩⟩
    · rw [if_neg hk]
      by_cases h' : (k == 1 || (tx b).length == 0) = true
      · rw [if_pos h']
        have e : repL b k.toNat = b := by
          simp only [Bool.or_eq_true, beq_iff_eq] at h'
          rcases h' with rfl | h'
          · simp [repL]
          · rw [tx_len] at h'
            have : b = [] := List.eq_nil_of_length_eq_zero h'
            subst this
            simp [repL]
        rw [e] at q
        exact ⟨.str (tx b), H, I, ⟨_, rfl⟩, q⟩
      · rw [if_neg h', repL_tx]
        refine ⟨?_, ⟨.str (tx (repL b k.toNat)), H, I.tok _, ⟨_, rfl⟩, q⟩⟩
        rw [tx_len, repL_len, sizeLine_eq]
        omega
theorem or_mul : OpR X (binaryOp .Mult) (rOp L (bin .mul)) := by
  intro pins s σ H x y v u Q I rx ry h
  obtain ⟨a, b, z, S, al, ra, rb, e, g⟩ := h
  cases a <;> cases b <;> simp only [bin, Option.some.injEq, reduceCtorEq, Option.ite_none_right_eq_some] at e
  · obtain ⟨hm, rfl⟩ := e
    rcases mulOk_c hm with hm | hm
    · exact op_mul pins s σ H x y v u Q I rx ry ⟨_, _, ra.int, rb.int, hm, g.int⟩
    · exact op_mulW pins s σ H x y v u Q I rx ry ⟨_, _, ra.int, rb.int, hm, g.int⟩
  · obtain ⟨⟨h1, h2, h3⟩, rfl⟩ := e
    obtain rfl := ra.str
    obtain rfl := rb.int
    obtain ⟨t, rfl⟩ := rx
    obtain ⟨t', rfl⟩ := ry
    exact mul_tx I h1 h2 h3 (g.str (by rw [repL_len]; exact h1))
  · obtain ⟨⟨h1, h2, h3⟩, rfl⟩ := e
    obtain ⟨p, ps, rfl, hp, rp⟩ := ra
    refine op_rep pins s σ H _ _ v u Q I rx ry ⟨p, _, ps, rfl, rb.int, hp, h2, h3, ?_, fun t ht => ?_⟩
    · rw [← rp.length]; exact Nat.le_trans h1 lim_line
    · exact g.newL ht (rp.flat _)
theorem or_mod : OpR X (binaryOp .Mod) (rOp L (bin .mod)) := by
  intro pins s σ H x y v u Q I rx ry h
  obtain ⟨a, b, z, S, al, ra, rb, e, g⟩ := h
  cases a <;> cases b <;> simp only [bin, Option.some.injEq, reduceCtorEq, Option.ite_none_right_eq_some] at e
  obtain ⟨hm, rfl⟩ := e
  exact op_modN pins s σ H x y v u Q I rx ry ⟨_, _, ra.int, rb.int, hm, g.int⟩
theorem or_pow : OpR X (binaryOp .Pow) (rOp L (bin .pow)) := by
  intro pins s σ H x y v u Q I rx ry h
  obtain ⟨a, b, z, S, al, ra, rb, e, g⟩ := h
  cases a <;> cases b <;> simp only [bin, Option.some.injEq, reduceCtorEq, Option.ite_none_right_eq_some] at e
  obtain ⟨⟨h1, h2, h3⟩, rfl⟩ := e
  exact op_pow pins s σ H x y v u Q I rx ry ⟨_, _, ra.int, rb.int, ⟨h1, by omega, h3⟩, g.int⟩
theorem or_fdiv : OpR X (binaryOp .FloorDiv) (rOp L (bin .fdiv)) := by
  intro pins s σ H x y v u Q I rx ry h
  obtain ⟨a, b, z, S, al, ra, rb, e, g⟩ := h
  cases a <;> cases b <;> simp only [bin, Option.some.injEq, reduceCtorEq, Option.ite_none_right_eq_some] at e
  rename_i i j
  obtain ⟨hm, rfl⟩ := e
  simp only [divOk, Bool.or_eq_true, Bool.and_eq_true, decide_eq_true_eq] at hm
  rcases hm with hm | hm
  · have q := g.int
    rw [Int.fdiv_eq_ediv_of_nonneg _ (Int.le_of_lt hm.1)] at q
    exact op_fdivW pins s σ H x y v u Q I rx ry ⟨_, _, ra.int, rb.int, wide_div hm.1 hm.2 (by decide) (by decide), q⟩
  · exact op_fdivN pins s σ H x y v u Q I rx ry ⟨_, _, ra.int, rb.int, hm, g.int⟩
end
end Ev
end
section
/-! EvC2: comparisons, places, built-ins over data. Own work. -/
set_option linter.all false
set_option autoImplicit false
set_option maxRecDepth 100000
set_option maxHeartbeats 1000000
namespace Ev
open PySem PySem.Spec PyProof.Rows L2

/-! ### data without dicts and instances -/
mutual
def shp : Nat → D → Bool
  | _, .non => true
  | _, .bl _ => true
  | _, .int _ => true
  | _, .str _ => true
  | n + 1, .lst xs => shps n xs
  | n + 1, .tup xs => shps n xs
  | _, _ => false
def shps : Nat → List D → Bool
  | _, [] => true
  | n, x :: xs => shp n x && shps n xs
end
mutual
theorem plain_shp : ∀ (n : Nat) (d : D), plain n d = true → shp n d = true
  | _, .non, _ => by simp [shp]
  | _, .bl _, _ => by simp [shp]
  | _, .int _, _ => by simp [shp]
  | _, .str _, _ => by simp [shp]
  | n + 1, .lst xs, h => by simp only [plain] at h; simp only [shp]; exact plains_shp n xs h
  | n + 1, .tup xs, h => by simp only [plain] at h; simp only [shp]; exact plains_shp n xs h
  | 0, .lst _, h => by simp [plain] at h
  | 0, .tup _, h => by simp [plain] at h
  | _, .scr _, h => by simp [plain] at h
  | _, .dic _ _, h => by simp [plain] at h
  | _, .ins _ _, h => by simp [plain] at h
theorem plains_shp : ∀ (n : Nat) (ds : List D), plains n ds = true → shps n ds = true
  | _, [], _ => by simp [shps]
  | n, d :: ds, h => by
    simp only [plains, Bool.and_eq_true] at h
    simp only [shps, Bool.and_eq_true]
    exact ⟨plain_shp n d h.1, plains_shp n ds h.2⟩
end
mutual
theorem showy_shp : ∀ (n : Nat) (d : D), showy n d = true → shp n d = true
  | _, .non, _ => by simp [shp]
  | _, .bl _, _ => by simp [shp]
  | _, .int _, _ => by simp [shp]
  | _, .str _, _ => by simp [shp]
  | n + 1, .lst xs, h => by simp only [showy] at h; simp only [shp]; exact showys_shp n xs h
  | n + 1, .tup xs, h => by simp only [showy] at h; simp only [shp]; exact showys_shp n xs h
  | 0, .lst _, h => by simp [showy] at h
  | 0, .tup _, h => by simp [showy] at h
  | _, .scr _, h => by simp [showy] at h
  | _, .dic _ _, h => by simp [showy] at h
  | _, .ins _ _, h => by simp [showy] at h
theorem showys_shp : ∀ (n : Nat) (ds : List D), showys n ds = true → shps n ds = true
  | _, [], _ => by simp [shps]
  | n, d :: ds, h => by
    simp only [showys, Bool.and_eq_true] at h
    simp only [shps, Bool.and_eq_true]
    exact ⟨showy_shp n d h.1, showys_shp n ds h.2⟩
end
section
variable {L : Lay} {H : Hp} {al : List Addr}
mutual
theorem dp_of : ∀ (n : Nat) (d : D) (v : V), shp n d = true → RepD L H al d v → Dp L.K H v (toPy d)
  | _, .non, _, _, h => by simp only [RepD] at h; subst h; simp only [toPy]; exact .non
  | _, .bl _, _, _, h => by simp only [RepD] at h; subst h; simp only [toPy]; exact .bl _
  | _, .int _, _, _, h => by simp only [RepD] at h; subst h; simp only [toPy]; exact .int _
  | _, .str _, _, _, h => by simp only [RepD] at h; obtain ⟨rfl, _⟩ := h; simp only [toPy]; exact .str _
  | n + 1, .lst xs, v, s, h => by
    simp only [RepD] at h; simp only [shp] at s; simp only [toPy]
    obtain ⟨a, vs, rfl, e, m, r⟩ := h
    exact .lst (.inl (.inl e)) (dps_of n xs vs s r)
  | n + 1, .tup xs, v, s, h => by
    simp only [RepD] at h; simp only [shp] at s; simp only [toPy]
    obtain ⟨a, vs, rfl, e, r⟩ := h
    exact .tup (e.elim (fun z => .inl (.inl z.1)) .inr) (dps_of n xs vs s r)
  | 0, .lst _, _, s, _ => by simp [shp] at s
  | 0, .tup _, _, s, _ => by simp [shp] at s
  | _, .scr _, _, s, _ => by simp [shp] at s
  | _, .dic _ _, _, s, _ => by simp [shp] at s
  | _, .ins _ _, _, s, _ => by simp [shp] at s
theorem dps_of : ∀ (n : Nat) (ds : List D) (vs : List V), shps n ds = true → RepDs L H al ds vs → DpAll L.K H vs (toPys ds)
  | _, [], _, _, h => by simp only [RepDs] at h; subst h; simp only [toPys]; exact .nil
  | n, d :: ds, _, s, h => by
    simp only [RepDs] at h; simp only [shps, Bool.and_eq_true] at s; simp only [toPys]
    obtain ⟨v, us, rfl, r, q⟩ := h
    exact .cons (dp_of n d v s.1 r) (dps_of n ds us s.2 q)
end
theorem dp_rt {n : Nat} {d : D} {v : V} (s : shp n d = true) (h : RT L H al d v) : Dp L.K H v (toPy d) := by
  cases d with
  | lst xs =>
    obtain ⟨a, vs, rfl, e, r⟩ := h
    cases n with
    | zero => simp [shp] at s
    | succ n =>
      simp only [shp] at s; simp only [toPy]
      exact .lst (.inl (.inl e)) (dps_of n xs vs s r)
  | dic _ _ => simp [shp] at s
  | _ => exact dp_of (al := al) n _ v s h
end
mutual
theorem lay_of : ∀ (n : Nat) (d : D), plain n d = true → (toPy d).canLay0 = true
  | _, .non, _ => by simp [toPy, PyData.canLay0]
  | _, .bl _, _ => by simp [toPy, PyData.canLay0]
  | _, .int _, _ => by simp [toPy, PyData.canLay0]
  | _, .str s, h => by
    simp only [plain] at h
    simp only [toPy, PyData.canLay0, PyData.strOk]
    rw [← Array.all_toList]
    exact h
  | n + 1, .lst xs, h => by simp only [plain] at h; simp only [toPy, PyData.canLay0]; exact lays_of n xs h
  | n + 1, .tup xs, h => by simp only [plain] at h; simp only [toPy, PyData.canLay0]; exact lays_of n xs h
  | 0, .lst _, h => by simp [plain] at h
  | 0, .tup _, h => by simp [plain] at h
  | _, .scr _, h => by simp [plain] at h
  | _, .dic _ _, h => by simp [plain] at h
  | _, .ins _ _, h => by simp [plain] at h
theorem lays_of : ∀ (n : Nat) (ds : List D), plains n ds = true → PyData.canLayAll0 (toPys ds) = true
  | _, [], _ => by simp [toPys, PyData.canLayAll0]
  | n, d :: ds, h => by
    simp only [plains, Bool.and_eq_true] at h
    simp only [toPys, PyData.canLayAll0, Bool.and_eq_true]
    exact ⟨lay_of n d h.1, lays_of n ds h.2⟩
end
mutual
theorem depth_of : ∀ (n : Nat) (d : D), shp n d = true → (toPy d).depth ≤ n
  | _, .non, _ => by simp [toPy, PyData.depth]
  | _, .bl _, _ => by simp [toPy, PyData.depth]
  | _, .int _, _ => by simp [toPy, PyData.depth]
  | _, .str s, h => by simp [toPy, PyData.depth]
  | n + 1, .lst xs, h => by simp only [shp] at h; simp only [toPy, PyData.depth]; exact Nat.succ_le_succ (depths_of n xs h)
  | n + 1, .tup xs, h => by simp only [shp] at h; simp only [toPy, PyData.depth]; exact Nat.succ_le_succ (depths_of n xs h)
  | 0, .lst _, h => by simp [shp] at h
  | 0, .tup _, h => by simp [shp] at h
  | _, .scr _, h => by simp [shp] at h
  | _, .dic _ _, h => by simp [shp] at h
  | _, .ins _ _, h => by simp [shp] at h
theorem depths_of : ∀ (n : Nat) (ds : List D), shps n ds = true → PyData.depthAll (toPys ds) ≤ n
  | _, [], _ => by simp [toPys, PyData.depthAll]
  | n, d :: ds, h => by
    simp only [shps, Bool.and_eq_true] at h
    simp only [toPys, PyData.depthAll]
    exact Nat.max_le.mpr ⟨depth_of n d h.1, depths_of n ds h.2⟩
end
theorem shaped_of {d : D} (h : pl d = true) : SeqAt.shaped (toPy d) = true := by
  unfold SeqAt.shaped
  rw [lay_of 20 d h, decide_eq_true (Nat.le_trans (depth_of 20 d (plain_shp 20 d h)) (by decide))]
  rfl
mutual
theorem eqv_py : ∀ (n m : Nat) (d e : D), shp n d = true → shp m e = true → PyData.eqv (toPy d) (toPy e) = eqv d e
  | _, _, .non, e, _, he => by cases e <;> simp_all [toPy, PyData.eqv, eqv, shp]
  | _, _, .bl _, e, _, he => by cases e <;> simp_all [toPy, PyData.eqv, eqv, shp]
  | _, _, .int _, e, _, he => by cases e <;> simp_all [toPy, PyData.eqv, eqv, shp]
  | _, _, .str s, e, _, he => by
    cases e <;> simp_all [toPy, PyData.eqv, eqv, shp]
    rename_i t
    by_cases z : s = t
    · subst z; simp
    · rw [beq_eq_false_iff_ne.mpr z, beq_eq_false_iff_ne.mpr]
      intro q; injection q with q; exact z (by simpa using congrArg Array.toList q)
  | n + 1, m, .lst xs, e, hd, he => by
    cases e with
    | lst ys =>
      cases m with
      | zero => simp [shp] at he
      | succ m => simp only [shp] at hd he; simp only [toPy, PyData.eqv, eqv]; exact eqvs_py n m xs ys hd he
    | _ => simp_all [toPy, PyData.eqv, eqv, shp]
  | n + 1, m, .tup xs, e, hd, he => by
    cases e with
    | tup ys =>
      cases m with
      | zero => simp [shp] at he
      | succ m => simp only [shp] at hd he; simp only [toPy, PyData.eqv, eqv]; exact eqvs_py n m xs ys hd he
    | _ => simp_all [toPy, PyData.eqv, eqv, shp]
  | 0, _, .lst _, _, h, _ => by simp [shp] at h
  | 0, _, .tup _, _, h, _ => by simp [shp] at h
  | _, _, .scr _, _, h, _ => by simp [shp] at h
  | _, _, .dic _ _, _, h, _ => by simp [shp] at h
  | _, _, .ins _ _, _, h, _ => by simp [shp] at h
theorem eqvs_py : ∀ (n m : Nat) (ds es : List D), shps n ds = true → shps m es = true → PyData.eqvAll (toPys ds) (toPys es) = eqvs ds es
  | _, _, [], [], _, _ => by simp [toPys, PyData.eqvAll, eqvs]
  | _, _, [], _ :: _, _, _ => by simp [toPys, PyData.eqvAll, eqvs]
  | _, _, _ :: _, [], _, _ => by simp [toPys, PyData.eqvAll, eqvs]
  | n, m, d :: ds, e :: es, hd, he => by
    simp only [shps, Bool.and_eq_true] at hd he
    simp only [toPys, PyData.eqvAll, eqvs, eqv_py n m d e hd.1 he.1, eqvs_py n m ds es hd.2 he.2]
end
theorem eqv_pl {d e : D} (hd : pl d = true) (he : pl e = true) : PyData.eqv (toPy d) (toPy e) = eqv d e := eqv_py 20 20 d e (plain_shp _ _ hd) (plain_shp _ _ he)
theorem plains_mem {n : Nat} : ∀ {ds : List D} {d : D}, plains n ds = true → d ∈ ds → plain n d = true
  | _ :: _, _, h, m => by
    simp only [plains, Bool.and_eq_true] at h
    rcases List.mem_cons.mp m with rfl | m
    · exact h.1
    · exact plains_mem h.2 m
theorem toPys_map : ∀ ds : List D, toPys ds = ds.map toPy
  | [] => by simp [toPys]
  | d :: ds => by simp [toPys, toPys_map ds]
theorem any_py {xs : List D} {d : D} (hx : plains 19 xs = true) (hd : pl d = true) : ((toPys xs).any fun z => PyData.eqv z (toPy d)) = xs.any fun z => eqv z d := by
  rw [toPys_map, List.any_map]
  rw [Bool.eq_iff_iff, List.any_eq_true, List.any_eq_true]
  constructor
  · rintro ⟨z, m, e⟩
    exact ⟨z, m, by simpa [eqv_py 19 20 z d (plain_shp _ _ (plains_mem hx m)) (plain_shp _ _ hd)] using e⟩
  · rintro ⟨z, m, e⟩
    exact ⟨z, m, by simpa [eqv_py 19 20 z d (plain_shp _ _ (plains_mem hx m)) (plain_shp _ _ hd)] using e⟩

/-! ### comparisons -/
def cOp : COp → CmpOp
  | .eq => .Eq | .ne => .NotEq | .lt => .Lt | .le => .LtE | .gt => .Gt | .ge => .GtE | .isN => .Is | .notN => .IsNot | .in_ => .In | .notIn => .NotIn
section
variable {L : Lay} {X : Cx}
theorem dec_tx (s t : Tx) : decide (V.str (tx s) = V.str (tx t)) = (s == t) := by
  by_cases e : s = t
  · subst e; simp
  · rw [beq_eq_false_iff_ne.mpr e]
    exact decide_eq_false fun q => e (tx_inj (V.str.inj q))
theorem cmp_eq_cases {a b z : D} (e : cmp .eq a b = some z) : (∃ s t, a = .str s ∧ b = .str t ∧ z = .bl (s == t)) ∨ (pl a = true ∧ pl b = true ∧ z = .bl (eqv a b)) := by
  unfold cmp at e
  split at e <;> simp_all
theorem cmp_ne_cases {a b z : D} (e : cmp .ne a b = some z) : (∃ s t, a = .str s ∧ b = .str t ∧ z = .bl (!(s == t))) ∨ (pl a = true ∧ pl b = true ∧ z = .bl (!eqv a b)) := by
  unfold cmp at e
  split at e <;> simp_all
theorem or_eq (hK : L.K = X.K) (hu : X.A.units + 65 < cLine) : OpR X (compareOp .Eq) (rOp L (cmp .eq)) := by
  intro pins s σ H x y v u Q I rx ry h
  obtain ⟨a, b, z, S, al, ra, rb, e, g⟩ := h
  rcases cmp_eq_cases e with ⟨p, q, rfl, rfl, rfl⟩ | ⟨ha, hb, rfl⟩
  · refine op_eq pins s σ H x y v u Q I rx ry ⟨?_, ?_⟩
    · rw [ra.str, rb.str]; rfl
    · rw [ra.str, rb.str, dec_tx]; exact g.bl
  · refine op_eqD (by omega) pins s σ H x y v u Q I rx ry ⟨_, _, hK ▸ dp_rt (plain_shp _ _ ha) ra, hK ▸ dp_rt (plain_shp _ _ hb) rb, shaped_of ha, shaped_of hb, ?_⟩
    rw [eqv_pl ha hb]; exact g.bl
theorem or_ne (hK : L.K = X.K) (hu : X.A.units + 65 < cLine) : OpR X (compareOp .NotEq) (rOp L (cmp .ne)) := by
  intro pins s σ H x y v u Q I rx ry h
  obtain ⟨a, b, z, S, al, ra, rb, e, g⟩ := h
  rcases cmp_ne_cases e with ⟨p, q, rfl, rfl, rfl⟩ | ⟨ha, hb, rfl⟩
  · refine op_ne pins s σ H x y v u Q I rx ry ⟨?_, ?_⟩
    · rw [ra.str, rb.str]; rfl
    · rw [ra.str, rb.str, dec_tx]; exact g.bl
  · refine op_neD (by omega) pins s σ H x y v u Q I rx ry ⟨_, _, hK ▸ dp_rt (plain_shp _ _ ha) ra, hK ▸ dp_rt (plain_shp _ _ hb) rb, shaped_of ha, shaped_of hb, ?_⟩
    rw [eqv_pl ha hb]; exact g.bl
theorem or_lt : OpR X (compareOp .Lt) (rOp L (cmp .lt)) := by
  intro pins s σ H x y v u Q I rx ry h
  obtain ⟨a, b, z, S, al, ra, rb, e, g⟩ := h
  cases a <;> cases b <;> simp only [cmp, Option.some.injEq, reduceCtorEq] at e
  subst e
  exact op_lt pins s σ H x y v u Q I rx ry ⟨_, _, ra.int, rb.int, g.bl⟩
theorem or_le : OpR X (compareOp .LtE) (rOp L (cmp .le)) := by
  intro pins s σ H x y v u Q I rx ry h
  obtain ⟨a, b, z, S, al, ra, rb, e, g⟩ := h
  cases a <;> cases b <;> simp only [cmp, Option.some.injEq, reduceCtorEq] at e
  subst e
  exact op_le pins s σ H x y v u Q I rx ry ⟨_, _, ra.int, rb.int, g.bl⟩
theorem or_gt : OpR X (compareOp .Gt) (rOp L (cmp .gt)) := by
  intro pins s σ H x y v u Q I rx ry h
  obtain ⟨a, b, z, S, al, ra, rb, e, g⟩ := h
  cases a <;> cases b <;> simp only [cmp, Option.some.injEq, reduceCtorEq] at e
  subst e
  exact op_gt pins s σ H x y v u Q I rx ry ⟨_, _, ra.int, rb.int, g.bl⟩
theorem or_ge : OpR X (compareOp .GtE) (rOp L (cmp .ge)) := by
  intro pins s σ H x y v u Q I rx ry h
  obtain ⟨a, b, z, S, al, ra, rb, e, g⟩ := h
  cases a <;> cases b <;> simp only [cmp, Option.some.injEq, reduceCtorEq] at e
  subst e
  exact op_ge pins s σ H x y v u Q I rx ry ⟨_, _, ra.int, rb.int, g.bl⟩
theorem isn_of {H : Hp} {al : List Addr} {a : D} {x : V} (ra : RT L H al a x) : decide (x = .non) = isNon a := by
  cases a with
  | non => rw [ra.non]; rfl
  | bl b => rw [ra.bl]; rfl
  | int i => rw [ra.int]; rfl
  | str s => rw [ra.str]; rfl
  | tup ds => obtain ⟨p, _, rfl, _⟩ := ra.tup; rfl
  | lst ds => obtain ⟨p, _, rfl, _⟩ := ra; rfl
  | scr ds => obtain ⟨p, rfl, _⟩ := ra.scr; rfl
  | dic _ _ =>
    obtain ⟨a, rfl, _⟩ := ra.dic
    simp [isNon]
  | ins c ds =>
    simp only [RT, RepD] at ra
    obtain ⟨p, _, _, rfl, _⟩ := ra; rfl
theorem cmp_isN_cases {a b z : D} (e : cmp .isN a b = some z) : (b = .non ∧ z = .bl (isNon a)) ∨ ∃ c d, a = .bl c ∧ b = .bl d ∧ z = .bl (decide (c = d)) := by
  unfold cmp at e
  split at e <;> simp_all <;> (first | exact ⟨_, _, ⟨rfl, rfl⟩, e.symm⟩ | exact .inl e.symm | exact e.symm)
theorem cmp_notN_cases {a b z : D} (e : cmp .notN a b = some z) : (b = .non ∧ z = .bl (!isNon a)) ∨ ∃ c d, a = .bl c ∧ b = .bl d ∧ z = .bl (!decide (c = d)) := by
  unfold cmp at e
  split at e <;> simp_all <;> (first | exact ⟨_, _, ⟨rfl, rfl⟩, e.symm⟩ | exact .inl e.symm | exact e.symm)
theorem or_isN : OpR X (compareOp .Is) (rOp L (cmp .isN)) := by
  intro pins s σ H x y v u Q I rx ry h
  obtain ⟨a, b, z, S, al, ra, rb, e, g⟩ := h
  rcases cmp_isN_cases e with ⟨rfl, rfl⟩ | ⟨c, d, rfl, rfl, rfl⟩
  · refine op_isN pins s σ H x y v u Q I rx ry ⟨rb.non, ?_⟩
    rw [isn_of ra]; exact g.bl
  · exact op_isBl pins s σ H x y v u Q I rx ry ⟨c, d, ra.bl, rb.bl, g.bl⟩
theorem or_notN : OpR X (compareOp .IsNot) (rOp L (cmp .notN)) := by
  intro pins s σ H x y v u Q I rx ry h
  obtain ⟨a, b, z, S, al, ra, rb, e, g⟩ := h
  rcases cmp_notN_cases e with ⟨rfl, rfl⟩ | ⟨c, d, rfl, rfl, rfl⟩
  · refine op_notN pins s σ H x y v u Q I rx ry ⟨rb.non, ?_⟩
    rw [isn_of ra]; exact g.bl
  · exact op_notBl pins s σ H x y v u Q I rx ry ⟨c, d, ra.bl, rb.bl, g.bl⟩
theorem cmp_in_cases {a b z : D} (e : cmp .in_ a b = some z) : (∃ c t, a = .str [c] ∧ b = .str t ∧ z = .bl (decide (c ∈ t))) ∨
    (∃ ys, b = .lst ys ∧ pl a = true ∧ pl (.lst ys) = true ∧ z = .bl (ys.any fun y => eqv y a)) ∨ (∃ ys, b = .tup ys ∧ pl a = true ∧ pl (.tup ys) = true ∧ z = .bl (ys.any fun y => eqv y a)) ∨ (∃ s ks vs, a = .str s ∧ b = .dic ks vs ∧ z = .bl (lookD ks vs s).isSome) := by
  unfold cmp at e
  split at e <;> simp_all <;> exact ⟨_, _, ⟨rfl, rfl⟩, e.symm⟩
theorem cmp_notIn_cases {a b z : D} (e : cmp .notIn a b = some z) : (∃ c t, a = .str [c] ∧ b = .str t ∧ z = .bl (!decide (c ∈ t))) ∨
    (∃ ys, b = .lst ys ∧ pl a = true ∧ pl (.lst ys) = true ∧ z = .bl (!ys.any fun y => eqv y a)) ∨ (∃ ys, b = .tup ys ∧ pl a = true ∧ pl (.tup ys) = true ∧ z = .bl (!ys.any fun y => eqv y a)) ∨ (∃ s ks vs, a = .str s ∧ b = .dic ks vs ∧ z = .bl (!(lookD ks vs s).isSome)) := by
  unfold cmp at e
  split at e <;> simp_all <;> exact ⟨_, _, ⟨rfl, rfl⟩, e.symm⟩
theorem pl_lst {ys : List D} (h : pl (.lst ys) = true) : plains 19 ys = true := by simpa only [pl, plain] using h
theorem pl_tup {ys : List D} (h : pl (.tup ys) = true) : plains 19 ys = true := by simpa only [pl, plain] using h
theorem or_in (hK : L.K = X.K) (hw : L.w = X.w) (hu : X.A.units + 65 < cLine) : OpR X (compareOp .In) (rOp L (cmp .in_)) := by
  intro pins s σ H x y v u Q I rx ry h
  obtain ⟨a, b, z, S, al, ra, rb, e, g⟩ := h
  rcases cmp_in_cases e with ⟨c, t, rfl, rfl, rfl⟩ | ⟨ys, rfl, ha, hb, rfl⟩ | ⟨ys, rfl, ha, hb, rfl⟩ | ⟨z, ks, vs, rfl, rfl, rfl⟩
  · refine op_in_sign pins s σ H x y v u Q I rx ry ⟨c, tx t, ra.str, rb.str, ?_⟩
    rw [tx_list]; exact g.bl
  · obtain ⟨as, r1⟩ := Dp.reads I _ x v (hK ▸ dp_rt (plain_shp _ _ ha) ra) rx
    obtain ⟨bs, r2⟩ := Dp.reads I _ y u (hK ▸ dp_rt (plain_shp _ _ hb) rb) ry
    simp only [toPy] at r2
    refine SeqAt.in_list_reads r2 r1 (lays_of 19 ys (pl_lst hb)) (lay_of 20 a ha) (room_in_shaped (shaped_of ha) hu) ?_
    rw [any_py (pl_lst hb) ha]
    exact ⟨.bl _, H, I, rfl, g.bl⟩
  · obtain ⟨as, r1⟩ := Dp.reads I _ x v (hK ▸ dp_rt (plain_shp _ _ ha) ra) rx
    obtain ⟨bs, r2⟩ := Dp.reads I _ y u (hK ▸ dp_rt (plain_shp _ _ hb) rb) ry
    simp only [toPy] at r2
    refine SeqAt.in_tuple_reads r2 r1 (lays_of 19 ys (pl_tup hb)) (lay_of 20 a ha) (room_in_shaped (shaped_of ha) hu) ?_
    rw [any_py (pl_tup hb) ha]
    exact ⟨.bl _, H, I, rfl, g.bl⟩
  · obtain ⟨p, rfl, kd | ⟨kvs, hp, dr, rv⟩⟩ := rb.dic
    case inr =>
      have g1 : L2.DGet H p (.str (tx z)) (L2.valV kvs (.inr (tx z))) := L2.DGet.k (k := .inr (tx z)) hp
      cases ry
      refine L2.d_in (by omega) I g1 (by rw [← ra.str]; exact rx) fun s' I' => ?_
      refine ⟨.bl _, H, I', rfl, ?_⟩
      rcases dic_lookD (z := z) dr rv with ⟨q1, q2⟩ | ⟨d, w, q1, q2, -⟩
      · rw [q1] at g; rw [q2]; exact g.bl
      · rw [q1] at g; rw [q2]; exact g.bl
    obtain ⟨es, n, D, q⟩ := kd.look z
    rw [hK, hw] at D
    rw [hK] at q
    refine op_in_kd D pins s σ H x _ v u Q I rx ry ?_
    rcases q with ⟨q1, q2⟩ | ⟨d, w, q1, q2, -⟩
    · exact ⟨_, _, ra.str, rfl, q2, by rw [q1] at g; exact g.bl⟩
    · exact ⟨_, _, ra.str, rfl, q2, by rw [q1] at g; exact g.bl⟩
theorem or_notIn (hK : L.K = X.K) (hw : L.w = X.w) (hu : X.A.units + 65 < cLine) : OpR X (compareOp .NotIn) (rOp L (cmp .notIn)) := by
  intro pins s σ H x y v u Q I rx ry h
  obtain ⟨a, b, z, S, al, ra, rb, e, g⟩ := h
  rcases cmp_notIn_cases e with ⟨c, t, rfl, rfl, rfl⟩ | ⟨ys, rfl, ha, hb, rfl⟩ | ⟨ys, rfl, ha, hb, rfl⟩ | ⟨z, ks, vs, rfl, rfl, rfl⟩
  · refine op_notIn_sign pins s σ H x y v u Q I rx ry ⟨c, tx t, ra.str, rb.str, ?_⟩
    rw [tx_list]; exact g.bl
  · obtain ⟨as, r1⟩ := Dp.reads I _ x v (hK ▸ dp_rt (plain_shp _ _ ha) ra) rx
    obtain ⟨bs, r2⟩ := Dp.reads I _ y u (hK ▸ dp_rt (plain_shp _ _ hb) rb) ry
    simp only [toPy] at r2
    refine SeqAt.notIn_list_reads r2 r1 (lays_of 19 ys (pl_lst hb)) (lay_of 20 a ha) (room_in_shaped (shaped_of ha) hu) ?_
    rw [any_py (pl_lst hb) ha]
    exact ⟨.bl _, H, I, rfl, g.bl⟩
  · obtain ⟨as, r1⟩ := Dp.reads I _ x v (hK ▸ dp_rt (plain_shp _ _ ha) ra) rx
    obtain ⟨bs, r2⟩ := Dp.reads I _ y u (hK ▸ dp_rt (plain_shp _ _ hb) rb) ry
    simp only [toPy] at r2
    refine SeqAt.notIn_tuple_reads r2 r1 (lays_of 19 ys (pl_tup hb)) (lay_of 20 a ha) (room_in_shaped (shaped_of ha) hu) ?_
    rw [any_py (pl_tup hb) ha]
    exact ⟨.bl _, H, I, rfl, g.bl⟩
  · obtain ⟨p, rfl, kd | ⟨kvs, hp, dr, rv⟩⟩ := rb.dic
    case inr =>
      have g1 : L2.DGet H p (.str (tx z)) (L2.valV kvs (.inr (tx z))) := L2.DGet.k (k := .inr (tx z)) hp
      cases ry
      refine L2.d_notIn (by omega) I g1 (by rw [← ra.str]; exact rx) fun s' I' => ?_
      refine ⟨.bl _, H, I', rfl, ?_⟩
      rcases dic_lookD (z := z) dr rv with ⟨q1, q2⟩ | ⟨d, w, q1, q2, -⟩
      · rw [q1] at g; rw [q2]; exact g.bl
      · rw [q1] at g; rw [q2]; exact g.bl
    obtain ⟨es, n, D, q⟩ := kd.look z
    rw [hK, hw] at D
    rw [hK] at q
    refine op_notIn_kd D pins s σ H x _ v u Q I rx ry ?_
    rcases q with ⟨q1, q2⟩ | ⟨d, w, q1, q2, -⟩
    · exact ⟨_, _, ra.str, rfl, q2, by rw [q1] at g; exact g.bl⟩
    · exact ⟨_, _, ra.str, rfl, q2, by rw [q1] at g; exact g.bl⟩
theorem or_cmp (hK : L.K = X.K) (hw : L.w = X.w) (hu : X.A.units + 65 < cLine) : ∀ o : COp, OpR X (compareOp (cOp o)) (rOp L (cmp o))
  | .eq => or_eq hK hu
  | .ne => or_ne hK hu
  | .lt => or_lt
  | .le => or_le
  | .gt => or_gt
  | .ge => or_ge
  | .isN => or_isN
  | .notN => or_notN
  | .in_ => or_in hK hw hu
  | .notIn => or_notIn hK hw hu
end
end Ev
end
section
/-! EvC3: places, slices, truth, built-ins and methods over data. Own work. -/
set_option linter.all false
set_option autoImplicit false
set_option maxRecDepth 100000
set_option maxHeartbeats 1000000
namespace Ev
open PySem PySem.Spec PyProof.Rows L2
section
variable {L : Lay} {X : Cx}
theorem atI_rep {H : Hp} {al : List Addr} {ds : List D} {vs : List V} {i : Int} {d : D} (r : RepDs L H al ds vs) (e : atI ds i = some d) : ∃ v, L2.atI vs i = some v ∧ RepD L H al d v := by
  unfold atI at e
  unfold L2.atI
  rw [← r.length]
  show ∃ v, ((ixN ds.length i).bind fun j => vs[j]?) = some v ∧ _
  cases z : ixN ds.length i with
  | none => rw [z] at e; cases e
  | some j =>
    rw [z] at e
    exact r.get e
theorem kd_lookI {K : PySem.W.Frag} {z : Int} : ∀ {ks vs : List D} {es : List DictEntry}, dicB K ks vs es = true → lookI ks vs z = none
  | [], [], _, _ => rfl
  | [], _ :: _, _, _ => rfl
  | _ :: _, [], _, h => by simp [lookI]
  | .str k :: ks, v :: vs, [], h => by simp [dicB] at h
  | .str k :: ks, v :: vs, e :: es, h => by
    simp only [dicB, Bool.and_eq_true] at h
    simp only [lookI]
    exact kd_lookI h.2
  | .non :: _, _ :: _, _, h | .bl _ :: _, _ :: _, _, h | .int _ :: _, _ :: _, _, h | .tup _ :: _, _ :: _, _, h | .lst _ :: _, _ :: _, _, h | .scr _ :: _, _ :: _, _, h | .dic _ _ :: _, _ :: _, _, h | .ins _ _ :: _, _ :: _, _, h => by simp [dicB] at h
theorem ix_item (hK : L.K = X.K) (hw : L.w = X.w) (hu : X.A.units + 65 < cLine) : IxR X (rOp L item) := by
  intro value sl pins s σ H x y v u Q I rx ry h hs
  obtain ⟨a, b, z, S, al, ra, rb, e, g⟩ := h
  cases a <;> cases b <;> simp only [item, Option.map_eq_some_iff, reduceCtorEq] at e
  · obtain ⟨c, e, rfl⟩ := e
    refine ix_str value sl pins s σ H x y v u Q I rx ry ⟨_, _, c, ra.str, rb.int, ?_, ?_, ?_⟩ hs
    · rw [tx_len]; exact Nat.le_trans ra.strL.2 lim_line
    · rw [tx_list]; exact e
    · have := g.str (by simp [lim])
      exact this
  · obtain ⟨p, ps, rfl, hp, rp⟩ := ra.tup
    obtain ⟨w, hw, rw'⟩ := atI_rep rp e
    exact ix_tup value sl pins s σ H _ y v u Q I rx ry ⟨p, ps, _, w, rfl, rb.int, hK ▸ hp, hw, g.same rw'⟩ hs
  · obtain ⟨p, ps, rfl, hp, rp⟩ := ra
    obtain ⟨w, hw, rw'⟩ := atI_rep rp e
    exact ix_list value sl pins s σ H _ y v u Q I rx ry ⟨p, ps, _, w, rfl, rb.int, .inl (.inl hp), hw, g.same rw'⟩ hs
  · obtain ⟨c, e, rfl⟩ := e
    obtain ⟨p, rfl, hp⟩ := ra.scr
    obtain ⟨w, hw, rw'⟩ := atI_rep (RepDs.ofInts (L := L) (H := H) (al := al) _) (show atI ((_ : List Int).map D.int) _ = some (D.int c) from by
      unfold atI at e ⊢
      rw [List.length_map]
      cases z : ixN (List.length _) _ with
      | none => rw [z] at e; cases e
      | some j =>
        rw [z] at e
        simp only [Option.bind_some] at e ⊢
        rw [List.getElem?_map, e]; rfl)
    exact ix_list value sl pins s σ H _ y v u Q I rx ry ⟨p, _, _, w, rfl, rb.int, hK ▸ hp, hw, g.same rw'⟩ hs
  · rename_i ks vs z0
    obtain ⟨p, rfl, kd | ⟨kvs, hp, dr, rv⟩⟩ := ra.dic
    case inr =>
      rcases dic_lookI (z := z0) dr rv with ⟨q1, -⟩ | ⟨d, w, q1, q2, r2⟩
      · rw [q1] at e; cases e
      · rw [q1] at e
        cases e
        have g1 : L2.DGet H p (.int z0) (some w) := by rw [← q2]; exact L2.DGet.k (k := .inl z0) hp
        cases rx
        exact tail_any (L2.dict_typeIs I g1) slot_dict_getitem.lookup (L2.d_getItem (by omega) I g1 (by rw [← rb.int]; exact ry) fun w' s' I' rw' => ⟨w, H, I', rw', g.same r2⟩) hs
    obtain ⟨es, n, D, q⟩ := kd
    exact absurd e (by rw [kd_lookI q]; simp)
  · rename_i ks vs z0
    obtain ⟨p, rfl, kd | ⟨kvs, hp, dr, rv⟩⟩ := ra.dic
    case inr =>
      rcases dic_lookD (z := z0) dr rv with ⟨q1, -⟩ | ⟨d, w, q1, q2, r2⟩
      · rw [q1] at e; cases e
      · rw [q1] at e
        cases e
        have g1 : L2.DGet H p (.str (tx z0)) (some w) := by rw [← q2]; exact L2.DGet.k (k := .inr (tx z0)) hp
        cases rx
        exact tail_any (L2.dict_typeIs I g1) slot_dict_getitem.lookup (L2.d_getItem (by omega) I g1 (by rw [← rb.str]; exact ry) fun w' s' I' rw' => ⟨w, H, I', rw', g.same r2⟩) hs
    obtain ⟨es, n, D, q⟩ := kd.look z0
    rcases q with ⟨q1, -⟩ | ⟨d, w, q1, q2, q3⟩
    · rw [q1] at e; cases e
    · rw [q1] at e
      cases e
      obtain ⟨v0, hv⟩ := conB_abs q3
      obtain ⟨r1, r2⟩ := conB_ok (L := L) (H := H) (al := al) q3 v0 hv
      have at_ := D.at_
      have lit := D.lit
      rw [hK] at at_ q2
      rw [hw] at lit
      exact ix_kdict value sl pins s σ H _ y v u Q I rx ry ⟨p, _, v0, rfl, rb.str, ⟨es, n, w, at_, lit, q2, r1⟩, g.same r2⟩ hs
/-! ### slices -/
def rSl (L : Lay) : V → Option Int → Option Int → Hp → VK → Prop := fun x lo hi H Q => ∃ u z S al, RT L H al u x ∧ slice u lo hi = some z ∧ OpS L H S al z Q
theorem cut_rep {H : Hp} {al : List Addr} {ds : List D} {vs : List V} (lo hi : Option Int) (r : RepDs L H al ds vs) : RepDs L H al (cut ds lo hi) (L2.cutV vs lo hi) := by
  unfold cut L2.cutV
  rw [← r.length]
  exact (r.drop _).take _
theorem cutS_tx (s : Tx) (lo hi : Option Int) : L2.cutS (tx s) lo hi = tx (cut s lo hi) := by
  unfold L2.cutS cut
  rw [tx_len]; rfl
theorem cut_len {α : Type} (s : List α) (lo hi : Option Int) : (cut s lo hi).length ≤ s.length := by
  unfold cut
  rw [List.length_take, List.length_drop]
  omega
theorem cut_whole {α : Type} {s : List α} {lo hi : Option Int} (h : sIx s.length 0 lo = 0 ∧ sIx s.length s.length hi = s.length) : cut s lo hi = s := by
  unfold cut
  rw [h.1, h.2]; simp
theorem sl_slice (hK : L.K = X.K) : SlR X (rSl L) := by
  intro pins s σ H x v vl vu lo hi sl Q I rx hs pl pu h
  obtain ⟨a, z, S, al, ra, e, g⟩ := h
  cases a <;> simp only [slice, Option.some.injEq, reduceCtorEq] at e
  · subst e
    refine sl_str pins s σ H x v vl vu lo hi sl Q I rx hs pl pu ⟨_, ra.str, ?_, ?_⟩
    · rw [tx_len]; exact Nat.le_trans ra.strL.2 lim_line
    · rw [cutS_tx]; exact g.str (Nat.le_trans (cut_len _ _ _) ra.strL.2)
  · subst e
    have ra' := ra
    obtain ⟨p, ps, rfl, hp, rp⟩ := ra.tup
    refine sl_tupA pins s σ H _ v vl vu lo hi sl Q I rx hs pl pu ⟨p, ps, rfl, hK ▸ hp, fun hw => ?_, fun _ q hq => g.newT hq (cut_rep _ _ rp)⟩
    refine g.same ?_
    rw [cut_whole (by rw [← rp.length] at hw; exact hw)]
    exact ra'
  · subst e
    obtain ⟨p, ps, rfl, hp, rp⟩ := ra
    exact sl_list pins s σ H _ v vl vu lo hi sl Q I rx hs pl pu ⟨p, ps, rfl, .inl (.inl hp), fun q hq => g.newL hq (cut_rep _ _ rp)⟩
/-! ### truth, minus -/
theorem empty_len {α β : Type} {a : List α} {b : List β} (h : a.length = b.length) : (!a.isEmpty) = !b.isEmpty := by
  cases a <;> cases b <;> simp_all
theorem tru_rep (hK : L.K = X.K) {H : Hp} {al : List Addr} {d : D} {v : V} {k : Bool} (r : RT L H al d v) (e : truth d = some k) : TruV X.K v H k := by
  cases d <;> simp only [truth, Option.some.injEq, reduceCtorEq] at e <;> subst e
  · rw [r.non]; rfl
  · rw [r.bl]; rfl
  · rw [r.int]; rfl
  · rename_i t
    rw [r.str]
    refine ⟨by rw [tx_len]; exact Nat.le_trans r.strL.2 lim_line, ?_⟩
    rw [tx_len]
    cases t <;> simp; omega
  · obtain ⟨p, ps, rfl, hp, rp⟩ := r.tup
    refine .inr (.inl ⟨ps, hK ▸ hp, ?_⟩)
    rw [empty_len rp.length]
  · obtain ⟨p, ps, rfl, hp, rp⟩ := r
    refine .inl ⟨ps, .inl (.inl hp), ?_⟩
    rw [empty_len rp.length]
def rUn (L : Lay) (f : D → Option D) : V → Hp → VK → Prop := fun x H Q => ∃ u z S al, RT L H al u x ∧ f u = some z ∧ OpS L H S al z Q
theorem ur_neg : UnR X (unaryOp .USub) (rUn L neg) := by
  intro pins s σ H x v Q I rx h
  obtain ⟨a, z, S, al, ra, e, g⟩ := h
  cases a <;> simp only [neg, Option.some.injEq, reduceCtorEq] at e
  subst e
  exact un_neg pins s σ H x v Q I rx ⟨_, ra.int, g.int⟩
/-! ### how many of one sign -/
theorem occ_cnt (x : Tx) (c : Nat) : ∀ (k i : Nat) (st : Array Nat × Nat), i + k = x.length + 1 → st.2 ≤ i → st.1.size ≤ i →
    ((forIn (List.range' i k) st (StrLaws.occBody (tx x) ⟨#[c]⟩ (tx x).length ((tx x).length + 1))).run.fst : Array Nat).size = st.1.size + ((x.drop i).filter (· == c)).length
  | 0, i, st, h, _, _ => by
    have : x.drop i = [] := List.drop_eq_nil_of_le (by omega)
    simp [this]
  | k + 1, i, st, h, h1, h2 => by
    rw [List.range'_succ, List.forIn_cons]
    unfold StrLaws.occBody
    have key := StrLaws.subAt_one (tx x) c i
    rw [tx_list] at key
    have hl : (⟨#[c]⟩ : Str).length = 1 := rfl
    by_cases hc : x[i]? = some c
    · obtain ⟨q1, q2⟩ := key.mpr hc
      have hlt : i < x.length := (List.getElem?_eq_some_iff.mp hc).1
      rw [if_pos ⟨⟨⟨by rw [tx_len]; omega, h1⟩, q1⟩, q2⟩]
      have ih := occ_cnt x c k (i + 1) (st.1.push i, i + 1) (by omega) (Nat.le_refl _) (by simp; omega)
      simp only [pure_bind]
      rw [hl]
      rw [show x.drop i = c :: x.drop (i + 1) from by rw [List.drop_eq_getElem_cons hlt]; congr 1; exact (List.getElem?_eq_some_iff.mp hc).2]
      rw [List.filter_cons_of_pos (by simp)]
      refine ih.trans ?_
      simp; omega
    · have hn : ¬ (((st.1.size < (tx x).length + 1 ∧ st.2 ≤ i) ∧ i + (⟨#[c]⟩ : Str).length ≤ (tx x).length) ∧ Builtin.Str.subAt (tx x) ⟨#[c]⟩ i = true) := fun z => hc (key.mp ⟨z.1.2, z.2⟩)
      rw [if_neg hn]
      have ih := occ_cnt x c k (i + 1) (st.1, st.2) (by omega) (by simp; omega) (by simp; omega)
      simp only [pure_bind]
      refine ih.trans ?_
      by_cases hlt : i < x.length
      · rw [List.drop_eq_getElem_cons hlt]
        rw [List.filter_cons_of_neg]
        simp only [beq_iff_eq]
        intro z
        exact hc (by rw [List.getElem?_eq_getElem hlt, z])
      · rw [List.drop_eq_nil_of_le (by omega), List.drop_eq_nil_of_le (by omega)]
theorem count_tx (x : Tx) (c : Nat) : Txt.count (tx x) (tx [c]) = cntT c x := by
  unfold Txt.count cntT
  congr 1
  show (Builtin.Str.occurrences (tx x) ⟨#[c]⟩ 0 (tx x).length ((tx x).length + 1)).length = _
  rw [StrLaws.occ_eq, Array.length_toList]
  have := occ_cnt x c (x.length + 1) 0 (#[], 0) (by omega) (Nat.le_refl _) (by simp)
  rw [tx_len] at this ⊢
  simpa using this
theorem join_tx (sep : Tx) : ∀ ts : List Tx, Txt.join (tx sep) (ts.map tx) = tx (joinT sep ts)
  | [] => rfl
  | [x] => rfl
  | x :: y :: r => by
    have ih := join_tx sep (y :: r)
    have e : Txt.join (tx sep) ((x :: y :: r).map tx) = tx x ++ tx sep ++ Txt.join (tx sep) ((y :: r).map tx) := by
      rw [TL.join_eq, TL.join_eq]; rfl
    rw [e, ih, tx_app, tx_app]; rfl
theorem joinT_len (sep : Tx) : ∀ ts : List Tx, (joinT sep ts).length ≤ (ts.map (·.length)).sum + ts.length * sep.length
  | [] => by simp [joinT]
  | [x] => by simp [joinT]
  | x :: y :: r => by
    have ih := joinT_len sep (y :: r)
    simp only [joinT, List.length_append, List.map_cons, List.sum_cons, List.length_cons, Nat.add_mul, Nat.one_mul] at ih ⊢
    omega
def rMt (L : Lay) (f : D → List D → Option D) : V → List V → Hp → VK → Prop := fun x xs H Q => ∃ u us z S al, RT L H al u x ∧ Paired (RT L H al) us xs ∧ f u us = some z ∧ OpS L H S al z Q
theorem bm_join_cases {a : D} {us : List D} {z : D} (e : bm .join a us = some z) : ∃ sep xs ts, a = .str sep ∧ us = [.lst xs] ∧ txsOf xs = some ts ∧ (ts.map (·.length)).sum + ts.length * sep.length ≤ lim ∧ z = .str (joinT sep ts) := by
  unfold bm at e
  split at e
  · rename_i sep xs h1
    cases q : txsOf xs with
    | none => rw [q] at e; cases e
    | some ts =>
      rw [q] at e
      simp only [Option.bind_some, Option.ite_none_right_eq_some, Option.some.injEq] at e
      exact ⟨sep, xs, ts, rfl, rfl, q, e.1, e.2.symm⟩
  · contradiction
  · contradiction
  · contradiction
  · cases e
theorem mt_joinD (hK : L.K = X.K) : MtR X "str.join" (rMt L (bm .join)) := by
  intro pins s σ H x xs v us Q I rx rxs h
  obtain ⟨a, ds, z, S, al, ra, rb, e, g⟩ := h
  obtain ⟨sep, ys, ts, rfl, rfl, ht, hl, rfl⟩ := bm_join_cases e
  cases rb with
  | cons r1 r2 =>
    cases r2
    obtain ⟨p, ps, rfl, hp, rp⟩ := r1
    rw [txsOf_map ht] at rp
    rw [rp.txs] at hp
    refine mt_join pins s σ H x _ v us Q I rx rxs ⟨_, p, ts.map tx, ra.str, rfl, .inl (.inl (.inl hp)), ?_, ?_⟩
    · have e1 : (ts.map tx).map (·.length) = ts.map (·.length) := by
        rw [List.map_map]; exact List.map_congr_left fun t _ => tx_len t
      rw [e1, List.length_map, tx_len]
      exact Nat.le_trans hl (by decide)
    · rw [join_tx]; exact g.str (Nat.le_trans (joinT_len _ _) hl)
theorem bm_lcount_cases {a : D} {us : List D} {z : D} (e : bm .lcount a us = some z) : ∃ ys y, a = .lst ys ∧ us = [y] ∧ pl (.lst ys) = true ∧ pl y = true ∧ z = .int ((ys.countP fun x => eqv x y : Nat) : Int) := by
  unfold bm at e
  split at e
  · contradiction
  · contradiction
  · rename_i ys y h1
    obtain ⟨h, e⟩ := (Option.ite_none_right_eq_some).mp e
    simp only [Bool.and_eq_true] at h
    simp only [Option.some.injEq] at e
    exact ⟨ys, y, rfl, rfl, h.1, h.2, e.symm⟩
  · contradiction
  · cases e
mutual
theorem pyp_of : ∀ (n : Nat) (d : D), plain n d = true → (toPy d).plain = true
  | _, .non, _ => by simp [toPy, PyData.plain]
  | _, .bl _, _ => by simp [toPy, PyData.plain]
  | _, .int _, _ => by simp [toPy, PyData.plain]
  | _, .str s, h => by simp [toPy, PyData.plain]
  | n + 1, .lst xs, h => by simp only [plain] at h; simp only [toPy, PyData.plain]; exact pyps_of n xs h
  | n + 1, .tup xs, h => by simp only [plain] at h; simp only [toPy, PyData.plain]; exact pyps_of n xs h
  | 0, .lst _, h => by simp [plain] at h
  | 0, .tup _, h => by simp [plain] at h
  | _, .scr _, h => by simp [plain] at h
  | _, .dic _ _, h => by simp [plain] at h
  | _, .ins _ _, h => by simp [plain] at h
theorem pyps_of : ∀ (n : Nat) (ds : List D), plains n ds = true → PyData.plainAll (toPys ds) = true
  | _, [], _ => by simp [toPys, PyData.plainAll]
  | n, d :: ds, h => by
    simp only [plains, Bool.and_eq_true] at h
    simp only [toPys, PyData.plainAll, Bool.and_eq_true]
    exact ⟨pyp_of n d h.1, pyps_of n ds h.2⟩
end
theorem count_py {d : D} (hd : pl d = true) : ∀ {xs : List D}, plains 19 xs = true → ((toPys xs).countP fun z => PyData.eqv z (toPy d)) = xs.countP fun z => eqv z d
  | [], _ => by simp [toPys]
  | x :: xs, h => by
    simp only [plains, Bool.and_eq_true] at h
    simp only [toPys, List.countP_cons, eqv_py 19 20 x d (plain_shp _ _ h.1) (plain_shp _ _ hd), count_py hd h.2]
theorem mt_lcountD (hK : L.K = X.K) (hu : X.A.units + 65 < cLine) : MtR X "list.count" (rMt L (bm .lcount)) := by
  intro pins s σ H x xs v us Q I rx rxs h
  obtain ⟨a, ds, z, S, al, ra, rb, e, g⟩ := h
  obtain ⟨ys, y, rfl, rfl, h1, h2, rfl⟩ := bm_lcount_cases e
  cases rb with
  | cons r1 r2 =>
    cases r2
    obtain ⟨u, rfl, ru⟩ := rxs.one
    obtain ⟨as, q1⟩ := Dp.reads I _ x v (hK ▸ dp_rt (plain_shp _ _ h1) ra) rx
    obtain ⟨bs, q2⟩ := Dp.reads I _ _ u (hK ▸ dp_rt (plain_shp _ _ h2) r1) ru
    simp only [toPy] at q1
    have h3 := pl_lst h1
    cases q1 with
    | list ho hc hd hr =>
      refine SeqAt.count_list_data ⟨_, ho, hc, _, hd⟩ hr q2 (pyps_of 19 ys h3) (pyp_of 20 y h2) ?_ ?_
      · have := depths_of 19 ys (plains_shp _ _ h3)
        omega
      · refine ⟨.int _, H, I.tok _, ⟨_, rfl⟩, ?_⟩
        rw [count_py h2 h3]
        exact g.int
theorem bm_lindex_cases {a : D} {us : List D} {z : D} (e : bm .lindex a us = some z) : ∃ ys y j, a = .lst ys ∧ us = [y] ∧ pl (.lst ys) = true ∧ pl y = true ∧ (ys.findIdx? fun x => eqv x y) = some j ∧ z = .int (j : Nat) := by
  unfold bm at e
  split at e
  · contradiction
  · contradiction
  · contradiction
  · rename_i ys y h1
    split at e
    · rename_i h
      simp only [Bool.and_eq_true] at h
      cases q : ys.findIdx? fun x => eqv x y with
      | none => rw [q] at e; cases e
      | some j =>
        rw [q] at e
        simp only [Option.map_some, Option.some.injEq] at e
        exact ⟨ys, y, j, rfl, rfl, h.1, h.2, q, e.symm⟩
    · cases e
  · cases e
theorem mt_lindexD (hK : L.K = X.K) (hu : X.A.units + 65 < cLine) : MtR X "list.index" (rMt L (bm .lindex)) := by
  intro pins s σ H x xs v us Q I rx rxs h
  obtain ⟨a, ds, z, S, al, ra, rb, e, g⟩ := h
  obtain ⟨ys, y, j, rfl, rfl, h1, h2, h3, rfl⟩ := bm_lindex_cases e
  cases rb with
  | cons r1 r2 =>
    cases r2
    have h4 := pl_lst h1
    obtain ⟨b, vs, rfl, -, -⟩ := RT.lst ra
    have q0 := hK ▸ dp_rt (plain_shp _ _ h1) ra
    simp only [toPy] at q0
    obtain ⟨hj, hjt, hjn⟩ := List.findIdx?_eq_some_iff_getElem.mp h3
    refine mt_indexD hu pins s σ H _ _ v us Q I rx rxs ⟨b, _, toPy y, toPys ys, j, toPy ys[j], rfl, rfl, q0, hK ▸ dp_rt (plain_shp _ _ h2) r1, ?_, ?_, ?_, ?_, ?_, g.int⟩
    · have := shaped_of h1
      simpa only [toPy] using this
    · exact shaped_of h2
    · rw [toPys_map, List.getElem?_map, List.getElem?_eq_getElem hj]; rfl
    · have := plains_mem h4 (List.getElem_mem hj)
      rw [eqv_py 19 20 ys[j] y (plain_shp _ _ this) (plain_shp _ _ h2)]
      exact hjt
    · intro m z' hm hz'
      rw [toPys_map, List.getElem?_map] at hz'
      have hm2 : m < ys.length := by omega
      rw [List.getElem?_eq_getElem hm2] at hz'
      simp only [Option.map_some, Option.some.injEq] at hz'
      subst hz'
      have := plains_mem h4 (List.getElem_mem hm2)
      rw [eqv_py 19 20 ys[m] y (plain_shp _ _ this) (plain_shp _ _ h2)]
      have := hjn m hm
      simpa using this
theorem bm_count_cases {a : D} {us : List D} {z : D} (e : bm .count a us = some z) : ∃ t c, a = .str t ∧ us = [.str [c]] ∧ z = .int (cntT c t) := by
  unfold bm at e
  split at e
  · contradiction
  · rename_i t c h1
    simp only [Option.some.injEq] at e
    exact ⟨t, c, rfl, rfl, e.symm⟩
  · contradiction
  · contradiction
  · cases e
theorem mt_countD : MtR X "str.count" (rMt L (bm .count)) := by
  intro pins s σ H x xs v us Q I rx rxs h
  obtain ⟨a, ds, z, S, al, ra, rb, e, g⟩ := h
  obtain ⟨t, c, rfl, rfl, rfl⟩ := bm_count_cases e
  cases rb with
  | cons r1 r2 =>
    cases r2
    refine mt_count pins s σ H x _ v us Q I rx rxs ⟨_, _, ra.str, by rw [r1.str], ?_⟩
    rw [count_tx]; exact g.int
end
end Ev
end
section
/-! EvC4: built-in functions over data. Own work. -/
set_option linter.all false
set_option autoImplicit false
set_option maxRecDepth 100000
set_option maxHeartbeats 1000000
namespace Ev
open PySem PySem.Spec PyProof.Rows L2
theorem log2_of {i : Int} (h : i.natAbs < 2 ^ 1900) : i.natAbs.log2 < 1920 := Nat.lt_trans (PySem.Flt.log2_lt_of (by decide) h) (by decide)
theorem strI_len {i : Int} (h : i.natAbs < 2 ^ 1900) : (strI i).length ≤ lim := by
  have h2 : i.natAbs < 10 ^ 4300 := Nat.lt_of_lt_of_le h (by decide +kernel)
  have e := int_text_length_le10 (k := 4300) (by decide) h2
  clear h h2
  have e2 : (strI i).length = (Str.ofString (toString i)).length := by simp [strI, Str.length]
  rw [e2, PySem.ofString_length]
  have : lim = 4000000 := rfl
  omega
theorem tx_self (z : Str) : tx z.cps.toList = z := by simp [tx]
section
variable {L : Lay} {X : Cx}
/-- a call of a built-in with data -/
def rCl (L : Lay) (f : List D → Option D) : List V → Hp → VK → Prop := fun xs H Q => ∃ us z S al, Paired (RT L H al) us xs ∧ f us = some z ∧ OpS L H S al z Q
theorem pair1 {H : Hp} {al : List Addr} {u : D} {xs : List V} (p : Paired (RT L H al) [u] xs) : ∃ x, xs = [x] ∧ RT L H al u x := by
  cases p with
  | cons r q => cases q; exact ⟨_, rfl, r⟩
theorem pair2 {H : Hp} {al : List Addr} {u v : D} {xs : List V} (p : Paired (RT L H al) [u, v] xs) : ∃ x y, xs = [x, y] ∧ RT L H al u x ∧ RT L H al v y := by
  cases p with
  | cons r q => obtain ⟨y, rfl, r2⟩ := pair1 q; exact ⟨_, _, rfl, r, r2⟩
theorem pair3 {H : Hp} {al : List Addr} {u v w : D} {xs : List V} (p : Paired (RT L H al) [u, v, w] xs) : ∃ x y z, xs = [x, y, z] ∧ RT L H al u x ∧ RT L H al v y ∧ RT L H al w z := by
  cases p with
  | cons r q => obtain ⟨y, z, rfl, r2, r3⟩ := pair2 q; exact ⟨_, _, _, rfl, r, r2, r3⟩
theorem cl_len (hK : L.K = X.K) : CallR X (.builtin "len") (rCl L (bi .len)) := by
  intro pins s σ H xs us Q I r h
  obtain ⟨ds, z, S, al, p, e, g⟩ := h
  simp only [bi] at e
  unfold fLen at e
  split at e <;> (try contradiction) <;> simp only [Option.some.injEq] at e
  · obtain ⟨x, rfl, r1⟩ := pair1 p
    obtain rfl := e
    refine call_len_str pins s σ H _ us Q I r ⟨_, by rw [r1.str], by rw [tx_len]; exact Nat.le_trans r1.strL.2 lim_line, ?_⟩
    rw [tx_len]; exact g.int
  · obtain ⟨x, rfl, r1⟩ := pair1 p
    obtain rfl := e
    obtain ⟨a, vs, rfl, ha, rv⟩ := r1
    refine call_len_seq pins s σ H _ us Q I r ⟨a, vs, rfl, .inl (.inl (.inl ha)), ?_⟩
    rw [← rv.length]; exact g.int
  · obtain ⟨x, rfl, r1⟩ := pair1 p
    obtain rfl := e
    obtain ⟨a, vs, rfl, ha, rv⟩ := r1.tup
    refine call_len_seq pins s σ H _ us Q I r ⟨a, vs, rfl, .inr (hK ▸ ha), ?_⟩
    rw [← rv.length]; exact g.int
  · obtain ⟨x, rfl, r1⟩ := pair1 p
    obtain rfl := e
    obtain ⟨a, rfl, ha⟩ := r1.scr
    refine call_len_seq pins s σ H _ us Q I r ⟨a, _, rfl, .inl (hK ▸ ha), ?_⟩
    rw [List.length_map]; exact g.int
theorem cl_abs : CallR X (.builtin "abs") (rCl L (bi .abs)) := by
  intro pins s σ H xs us Q I r h
  obtain ⟨ds, z, S, al, p, e, g⟩ := h
  simp only [bi] at e
  unfold fAbs at e
  split at e <;> (try contradiction) <;> simp only [Option.some.injEq] at e
  obtain ⟨x, rfl, r1⟩ := pair1 p
  obtain rfl := e
  exact call_abs pins s σ H _ us Q I r ⟨_, by rw [r1.int], g.int⟩
theorem cl_max2 (hc : X.calm = true) : CallR X (.builtin "max") (rCl L (bi .max2)) := by
  intro pins s σ H xs us Q I r h
  obtain ⟨ds, z, S, al, p, e, g⟩ := h
  simp only [bi] at e
  unfold fMax2 at e
  split at e <;> (try contradiction) <;> simp only [Option.some.injEq] at e
  obtain ⟨x, y, rfl, r1, r2⟩ := pair2 p
  obtain rfl := e
  exact call_max2 hc pins s σ H _ us Q I r ⟨_, _, by rw [r1.int, r2.int], g.int⟩
theorem cl_min2 (hc : X.calm = true) : CallR X (.builtin "min") (rCl L (bi .min2)) := by
  intro pins s σ H xs us Q I r h
  obtain ⟨ds, z, S, al, p, e, g⟩ := h
  simp only [bi] at e
  unfold fMin2 at e
  split at e <;> (try contradiction) <;> simp only [Option.some.injEq] at e
  obtain ⟨x, y, rfl, r1, r2⟩ := pair2 p
  obtain rfl := e
  exact call_min2 hc pins s σ H _ us Q I r ⟨_, _, by rw [r1.int, r2.int], g.int⟩
theorem cl_int : CallR X (.type "int") (rCl L (bi .int)) := by
  intro pins s σ H xs us Q I r h
  obtain ⟨ds, z, S, al, p, e, g⟩ := h
  simp only [bi] at e
  unfold fInt at e
  split at e <;> (try contradiction) <;> simp only [Option.some.injEq] at e
  · obtain ⟨x, rfl, r1⟩ := pair1 p
    obtain rfl := e
    exact call_int1 pins s σ H _ us Q I r (.inl ⟨_, by rw [r1.int], g.int⟩)
  · obtain ⟨x, rfl, r1⟩ := pair1 p
    obtain rfl := e
    exact call_int1 pins s σ H _ us Q I r (.inr ⟨_, by rw [r1.bl], g.int⟩)
theorem cl_str : CallR X (.type "str") (rCl L (bi .str)) := by
  intro pins s σ H xs us Q I r h
  obtain ⟨ds, z, S, al, p, e, g⟩ := h
  simp only [bi] at e
  unfold fStr at e
  split at e <;> (try contradiction) <;> simp only [Option.some.injEq, Option.ite_none_right_eq_some] at e
  · obtain ⟨x, rfl, r1⟩ := pair1 p
    obtain rfl := e
    exact SkE.call_str_str pins s σ H _ us Q I r ⟨_, by rw [r1.str], g.str r1.strL.2⟩
  · obtain ⟨x, rfl, r1⟩ := pair1 p
    obtain ⟨hs, rfl⟩ := e
    refine call_str_int pins s σ H _ us Q I r ⟨_, by rw [r1.int], log2_of hs, ?_⟩
    have q := g.str (strI_len hs)
    unfold strI at q
    rw [tx_self] at q
    exact q
theorem cl_list (hK : L.K = X.K) : CallR X (.type "list") (rCl L (bi .list)) := by
  intro pins s σ H xs us Q I r h
  obtain ⟨ds, z, S, al, p, e, g⟩ := h
  simp only [bi] at e
  unfold fList at e
  split at e <;> (try contradiction) <;> simp only [Option.some.injEq] at e
  · obtain ⟨x, rfl, r1⟩ := pair1 p
    obtain rfl := e
    obtain ⟨a, vs, rfl, ha, rv⟩ := r1
    exact call_list_of pins s σ H _ us Q I r ⟨a, vs, rfl, .inl (.inl (.inl ha)), fun l hl => g.newL hl rv⟩
  · obtain ⟨x, rfl, r1⟩ := pair1 p
    obtain rfl := e
    obtain ⟨a, vs, rfl, ha, rv⟩ := r1.tup
    exact call_list_of pins s σ H _ us Q I r ⟨a, vs, rfl, .inr (hK ▸ ha), fun l hl => g.newL hl rv⟩
theorem cl_tuple (hK : L.K = X.K) : CallR X (.type "tuple") (rCl L (bi .tuple)) := by
  intro pins s σ H xs us Q I r h
  obtain ⟨ds, z, S, al, p, e, g⟩ := h
  simp only [bi] at e
  unfold fTuple at e
  split at e <;> (try contradiction) <;> simp only [Option.some.injEq] at e
  · obtain ⟨x, rfl, r1⟩ := pair1 p
    obtain rfl := e
    obtain ⟨a, vs, rfl, ha, rv⟩ := r1
    exact call_tuple_of pins s σ H _ us Q I r ⟨a, vs, rfl, .inl ⟨.inl (.inl ha), fun l hl => g.newT hl rv⟩⟩
  · obtain ⟨x, rfl, r1⟩ := pair1 p
    obtain rfl := e
    have r1' := r1
    obtain ⟨a, vs, rfl, ha, rv⟩ := r1.tup
    exact call_tuple_of pins s σ H _ us Q I r ⟨a, vs, rfl, .inr ⟨hK ▸ ha, g.same r1'⟩⟩
theorem cl_sum (hc : X.calm = true) : CallR X (.builtin "sum") (rCl L (bi .sum)) := by
  intro pins s σ H xs us Q I r h
  obtain ⟨ds, z, S, al, p, e, g⟩ := h
  simp only [bi] at e
  unfold fSum at e
  split at e <;> (try contradiction) <;> simp only [Option.map_eq_some_iff] at e
  obtain ⟨x, rfl, r1⟩ := pair1 p
  obtain ⟨ns, e, rfl⟩ := e
  obtain ⟨a, vs, rfl, ha, rv⟩ := r1
  rw [intsOf_map e] at rv
  rw [rv.ints] at ha
  exact cr_sum hc pins s σ H _ us Q I r ⟨a, ns, rfl, .inl (.inl ha), g.int⟩
theorem cl_any (hc : X.calm = true) : CallR X (.builtin "any") (rCl L (bi .any)) := by
  intro pins s σ H xs us Q I r h
  obtain ⟨ds, z, S, al, p, e, g⟩ := h
  simp only [bi] at e
  unfold fAny at e
  split at e <;> (try contradiction) <;> simp only [Option.map_eq_some_iff] at e
  obtain ⟨x, rfl, r1⟩ := pair1 p
  obtain ⟨ns, e, rfl⟩ := e
  obtain ⟨a, vs, rfl, ha, rv⟩ := r1
  rw [blsOf_map e] at rv
  rw [rv.bls] at ha
  exact cr_any hc pins s σ H _ us Q I r ⟨a, ns, rfl, .inl (.inl ha), g.bl⟩
theorem cl_all (hc : X.calm = true) : CallR X (.builtin "all") (rCl L (bi .all)) := by
  intro pins s σ H xs us Q I r h
  obtain ⟨ds, z, S, al, p, e, g⟩ := h
  simp only [bi] at e
  unfold fAll at e
  split at e <;> (try contradiction) <;> simp only [Option.map_eq_some_iff] at e
  obtain ⟨x, rfl, r1⟩ := pair1 p
  obtain ⟨ns, e, rfl⟩ := e
  obtain ⟨a, vs, rfl, ha, rv⟩ := r1
  rw [blsOf_map e] at rv
  rw [rv.bls] at ha
  exact cr_all hc pins s σ H _ us Q I r ⟨a, ns, rfl, .inl (.inl ha), g.bl⟩
theorem maxF : ∀ (xs : List Int) (a : Int), (xs.foldl (fun a b => if b > a then b else a) a = a ∨ xs.foldl (fun a b => if b > a then b else a) a ∈ xs) ∧ a ≤ xs.foldl (fun a b => if b > a then b else a) a ∧ ∀ y ∈ xs, y ≤ xs.foldl (fun a b => if b > a then b else a) a
  | [], a => ⟨.inl rfl, Int.le_refl _, fun _ h => nomatch h⟩
  | x :: xs, a => by
    obtain ⟨h1, h2, h3⟩ := maxF xs (if x > a then x else a)
    simp only [List.foldl_cons]
    refine ⟨?_, ?_, fun y hy => ?_⟩
    · rcases h1 with h1 | h1
      · by_cases hx : x > a
        · rw [if_pos hx] at h1 ⊢; exact .inr (by rw [h1]; exact List.mem_cons_self)
        · rw [if_neg hx] at h1 ⊢; exact .inl h1
      · exact .inr (List.mem_cons_of_mem _ h1)
    · refine Int.le_trans ?_ h2
      split <;> omega
    · rcases List.mem_cons.mp hy with rfl | hy
      · refine Int.le_trans ?_ h2
        split <;> omega
      · exact h3 y hy
theorem minF : ∀ (xs : List Int) (a : Int), (xs.foldl (fun a b => if b < a then b else a) a = a ∨ xs.foldl (fun a b => if b < a then b else a) a ∈ xs) ∧ xs.foldl (fun a b => if b < a then b else a) a ≤ a ∧ ∀ y ∈ xs, xs.foldl (fun a b => if b < a then b else a) a ≤ y
  | [], a => ⟨.inl rfl, Int.le_refl _, fun _ h => nomatch h⟩
  | x :: xs, a => by
    obtain ⟨h1, h2, h3⟩ := minF xs (if x < a then x else a)
    simp only [List.foldl_cons]
    refine ⟨?_, ?_, fun y hy => ?_⟩
    · rcases h1 with h1 | h1
      · by_cases hx : x < a
        · rw [if_pos hx] at h1 ⊢; exact .inr (by rw [h1]; exact List.mem_cons_self)
        · rw [if_neg hx] at h1 ⊢; exact .inl h1
      · exact .inr (List.mem_cons_of_mem _ h1)
    · refine Int.le_trans h2 ?_
      split <;> omega
    · rcases List.mem_cons.mp hy with rfl | hy
      · refine Int.le_trans h2 ?_
        split <;> omega
      · exact h3 y hy
theorem maxL_of {ns : List Int} {k : Int} (h : maxL ns = some k) : k ∈ ns ∧ ∀ y ∈ ns, y ≤ k := by
  cases ns with
  | nil => cases h
  | cons x xs =>
    simp only [maxL, Option.some.injEq] at h
    subst h
    obtain ⟨h1, h2, h3⟩ := maxF xs x
    refine ⟨h1.elim (fun z => by rw [z]; exact List.mem_cons_self) (List.mem_cons_of_mem _), fun y hy => ?_⟩
    rcases List.mem_cons.mp hy with rfl | hy
    · exact h2
    · exact h3 y hy
theorem minL_of {ns : List Int} {k : Int} (h : minL ns = some k) : k ∈ ns ∧ ∀ y ∈ ns, k ≤ y := by
  cases ns with
  | nil => cases h
  | cons x xs =>
    simp only [minL, Option.some.injEq] at h
    subst h
    obtain ⟨h1, h2, h3⟩ := minF xs x
    refine ⟨h1.elim (fun z => by rw [z]; exact List.mem_cons_self) (List.mem_cons_of_mem _), fun y hy => ?_⟩
    rcases List.mem_cons.mp hy with rfl | hy
    · exact h2
    · exact h3 y hy
theorem cl_max1 (hc : X.calm = true) : CallR X (.builtin "max") (rCl L (bi .max1)) := by
  intro pins s σ H xs us Q I r h
  obtain ⟨ds, z, S, al, p, e, g⟩ := h
  simp only [bi] at e
  unfold fMax1 at e
  split at e <;> try contradiction
  obtain ⟨x, rfl, r1⟩ := pair1 p
  obtain ⟨ns, e1, e2⟩ := Option.bind_eq_some_iff.mp e
  obtain ⟨k, e3, rfl⟩ := Option.map_eq_some_iff.mp e2
  obtain ⟨a, vs, rfl, ha, rv⟩ := r1
  rw [intsOf_map e1] at rv
  rw [rv.ints] at ha
  obtain ⟨k1, k2⟩ := maxL_of e3
  refine cr_max hc pins s σ H _ us Q I r ⟨a, ns, rfl, .inl (.inl ha), List.length_pos_of_mem k1, fun m h1 h2 => ?_⟩
  have : m = k := Int.le_antisymm (k2 m h1) (h2 k k1)
  subst this
  exact g.int
theorem cl_min1 (hc : X.calm = true) : CallR X (.builtin "min") (rCl L (bi .min1)) := by
  intro pins s σ H xs us Q I r h
  obtain ⟨ds, z, S, al, p, e, g⟩ := h
  simp only [bi] at e
  unfold fMin1 at e
  split at e <;> try contradiction
  obtain ⟨x, rfl, r1⟩ := pair1 p
  obtain ⟨ns, e1, e2⟩ := Option.bind_eq_some_iff.mp e
  obtain ⟨k, e3, rfl⟩ := Option.map_eq_some_iff.mp e2
  obtain ⟨a, vs, rfl, ha, rv⟩ := r1
  rw [intsOf_map e1] at rv
  rw [rv.ints] at ha
  obtain ⟨k1, k2⟩ := minL_of e3
  refine cr_min hc pins s σ H _ us Q I r ⟨a, ns, rfl, .inl (.inl ha), List.length_pos_of_mem k1, fun m h1 h2 => ?_⟩
  have : m = k := Int.le_antisymm (h2 k k1) (k2 m h1)
  subst this
  exact g.int
theorem cl_divmod : CallR X (.builtin "divmod") (rCl L (bi .divmod)) := by
  intro pins s σ H xs us Q I r h
  obtain ⟨ds, z, S, al, p, e, g⟩ := h
  simp only [bi] at e
  unfold fDivmod at e
  split at e <;> (try contradiction) <;> simp only [Option.some.injEq, Option.ite_none_right_eq_some] at e
  obtain ⟨x, y, rfl, r1, r2⟩ := pair2 p
  obtain ⟨⟨h1, h2⟩, rfl⟩ := e
  refine call_divmodW pins s σ H _ us Q I r ⟨_, _, by rw [r1.int, r2.int], ⟨h1, PyProof.noPylong_of_log2 ?_⟩, fun q hq => g.newT hq ?_⟩
  · exact Nat.lt_trans (PySem.Flt.log2_lt_of (by decide) h2) (by decide)
  · exact .cons (by simp [RepD]) (.cons (by simp [RepD]) .nil)
theorem cl_max3 (hc : X.calm = true) : CallR X (.builtin "max") (rCl L (bi .max3)) := by
  intro pins s σ H xs us Q I r h
  obtain ⟨ds, z, S, al, p, e, g⟩ := h
  simp only [bi] at e
  unfold fMax3 at e
  split at e <;> (try contradiction) <;> simp only [Option.some.injEq] at e
  rename_i i j k
  obtain ⟨x, y, w, rfl, r1, r2, r3⟩ := pair3 p
  obtain rfl := e
  refine call_max3Nu hc pins s σ H _ us Q I r ⟨_, _, _, .int (if k > (if j > i then j else i) then k else (if j > i then j else i)), rfl, ?_, g.int⟩
  rw [r1.int, r2.int, r3.int]
  unfold nuMax3 nuMax2
  by_cases h1 : j > i
  · by_cases h2 : k > j <;> simp [nuLt, nuCB, h1, h2, show i < j from h1]
  · by_cases h2 : k > i <;> simp [nuLt, nuCB, h1, h2, show ¬ i < j from h1]
/-! ### repr -/
mutual
theorem showable_of : ∀ (n : Nat) (d : D), showy n d = true → (toPy d).showable = true
  | _, .non, _ => by simp [toPy, PyData.showable]
  | _, .bl _, _ => by simp [toPy, PyData.showable]
  | _, .int i, h => by
    simp only [showy, decide_eq_true_eq] at h
    simp only [toPy, PyData.showable, decide_eq_true_eq]
    exact log2_of h
  | _, .str s, h => by simp [toPy, PyData.showable]
  | n + 1, .lst xs, h => by simp only [showy] at h; simp only [toPy, PyData.showable]; exact showables_of n xs h
  | n + 1, .tup xs, h => by simp only [showy] at h; simp only [toPy, PyData.showable]; exact showables_of n xs h
  | 0, .lst _, h => by simp [showy] at h
  | 0, .tup _, h => by simp [showy] at h
  | _, .scr _, h => by simp [showy] at h
  | _, .dic _ _, h => by simp [showy] at h
  | _, .ins _ _, h => by simp [showy] at h
theorem showables_of : ∀ (n : Nat) (ds : List D), showys n ds = true → PyData.showableAll (toPys ds) = true
  | _, [], _ => by simp [toPys, PyData.showableAll]
  | n, d :: ds, h => by
    simp only [showys, Bool.and_eq_true] at h
    simp only [toPys, PyData.showableAll, Bool.and_eq_true]
    exact ⟨showable_of n d h.1, showables_of n ds h.2⟩
end
mutual
theorem nodic_of : ∀ (n : Nat) (d : D), shp n d = true → (toPy d).hasDict = false
  | _, .non, _ => by simp [toPy, PyData.hasDict]
  | _, .bl _, _ => by simp [toPy, PyData.hasDict]
  | _, .int i, h => by simp [toPy, PyData.hasDict]
  | _, .str s, h => by simp [toPy, PyData.hasDict]
  | n + 1, .lst xs, h => by simp only [shp] at h; simp only [toPy, PyData.hasDict]; exact nodics_of n xs h
  | n + 1, .tup xs, h => by simp only [shp] at h; simp only [toPy, PyData.hasDict]; exact nodics_of n xs h
  | 0, .lst _, h => by simp [shp] at h
  | 0, .tup _, h => by simp [shp] at h
  | _, .scr _, h => by simp [shp] at h
  | _, .dic _ _, h => by simp [shp] at h
  | _, .ins _ _, h => by simp [shp] at h
theorem nodics_of : ∀ (n : Nat) (ds : List D), shps n ds = true → PyData.hasDictAll (toPys ds) = false
  | _, [], _ => by simp [toPys, PyData.hasDictAll]
  | n, d :: ds, h => by
    simp only [shps, Bool.and_eq_true] at h
    simp only [toPys, PyData.hasDictAll, Bool.or_eq_false_iff]
    exact ⟨nodic_of n d h.1, nodics_of n ds h.2⟩
end
theorem cl_repr (hK : L.K = X.K) (hg : X.A.guards = some []) (hu : X.A.units + 64 < cLine) : CallR X (.builtin "repr") (rCl L (bi .repr)) := by
  intro pins s σ H xs us Q I r h
  obtain ⟨ds, z, S, al, p, e, g⟩ := h
  simp only [bi] at e
  unfold fRepr at e
  split at e <;> (try contradiction) <;> simp only [Option.some.injEq, Option.ite_none_right_eq_some] at e
  obtain ⟨x, rfl, r1⟩ := pair1 p
  obtain ⟨ho, rfl⟩ := e
  rename_i d
  simp only [reprOk, Bool.and_eq_true, decide_eq_true_eq] at ho
  obtain ⟨hs, hl⟩ := ho
  have hsh := showy_shp 20 d hs
  obtain ⟨u, rfl, ru⟩ := vals1 r
  have q : Q (.str (toPy d).shown) H := by
    have q := g.str hl
    unfold reprD at q
    rw [tx_self] at q
    exact q
  have hsz : (toPy d).shown.length ≤ sizeLine := by
    have : (toPy d).shown.length = (reprD d).length := by simp [reprD, Str.length]
    rw [this]; exact Nat.le_trans hl lim_line
  have dp := dp_rt (al := al) hsh r1
  have byRef : ∀ a, x = .ref a → wpAny (model X.prog X.w) X.A (call (.builtin "repr") [u]) (EP X pins σ Q) X.xe s := fun a e => by
    subst e
    obtain rfl : u = Value.ref a := ru
    have rr : RelV (.ref a) (.ref a) := rfl
    obtain ⟨as, rd⟩ := Dp.reads I _ _ _ (hK ▸ dp) rr
    refine repr_of_reads' rd (showable_of 20 d hs) (fun z => by rw [nodic_of 20 d hsh] at z; cases z) hg ?_ (fun _ _ e => e) (fun h' t tk hk => ?_) hsz
    · have := depth_of 20 d hsh
      omega
    · exact ⟨.str _, H, I.kept (h' := h') (t' := tk) hk, ⟨_, rfl⟩, q⟩
  cases d with
  | non =>
    obtain rfl := r1.non
    obtain rfl : u = Value.none := ru
    exact P.repr_of_none ⟨.str _, H, I.tok _, ⟨_, rfl⟩, q⟩
  | bl b =>
    obtain rfl := r1.bl
    obtain rfl : u = Value.bool b := ru
    exact P.repr_of_bool ⟨.str _, H, I.tok _, ⟨_, rfl⟩, q⟩
  | int i =>
    obtain rfl := r1.int
    obtain ⟨t, rfl⟩ := ru
    exact P.repr_of_int (log2_of (by simpa [showy] using hs)) ⟨.str _, H, I.tok _, ⟨_, rfl⟩, q⟩
  | str z =>
    obtain rfl := r1.str
    obtain ⟨t, rfl⟩ := ru
    exact P.repr_of_str ⟨.str _, H, I.tok _, ⟨_, rfl⟩, q⟩ hsz
  | tup ds => obtain ⟨a, _, e, _⟩ := r1.tup; exact byRef a e
  | lst ds => obtain ⟨a, _, e, _⟩ := r1; exact byRef a e
  | scr _ => simp [showy] at hs
  | dic _ _ => simp [showy] at hs
  | ins _ _ => simp [showy] at hs
end
end Ev
end
section
/-! EvC5: how arguments come to parameters, for plain heads of defs. Own work. -/
set_option linter.all false
set_option autoImplicit false
set_option maxRecDepth 100000
set_option maxHeartbeats 1000000
namespace Ev
open PySem PySem.Spec PyProof.Rows L2
/-- a plain head of a def: names alone -/
def simpleP (p : Arguments) : Bool := p.posonlyargs.isEmpty && p.vararg.isNone && p.kwonlyargs.isEmpty && p.kwarg.isNone
abbrev Slots := List (Str × Value)
def addD : Slots → Slots → Slots
  | sl, [] => sl
  | sl, q :: l => addD (if (sl.lookup q.1).isNone = true then sl ++ [q] else sl) l
theorem loopK {β : Type} (e : β) (body : Str × Value → Slots × β → Sem (ForInStep (Slots × β))) : ∀ (kw sl : Slots),
    (∀ q ∈ kw, ∀ s : Slots, s.lookup q.1 = none → body q (s, e) = pure (.yield (s ++ [q], e))) → (∀ q ∈ kw, sl.lookup q.1 = none) → (kw.map (·.1)).Nodup →
    forIn kw (sl, e) body = pure (sl ++ kw, e)
  | [], sl, _, _, _ => by simp
  | q :: kw, sl, h, h2, nd => by
    rw [List.forIn_cons, h q List.mem_cons_self sl (h2 q List.mem_cons_self)]
    rw [pure_bind]
    have nd' := List.nodup_cons.mp nd
    have := loopK e body kw (sl ++ [q]) (fun q' hq => h q' (List.mem_cons_of_mem _ hq)) (fun q' hq => by
      rw [List.lookup_append, h2 q' (List.mem_cons_of_mem _ hq), Option.none_or]
      have hne : q'.1 ≠ q.1 := fun z => nd'.1 (by show q.1 ∈ _; rw [← z]; exact List.mem_map_of_mem (f := fun x : Str × Value => x.1) hq)
      have hb : (q'.1 == q.1) = false := beq_eq_false_iff_ne.mpr hne
      simp [List.lookup, hb]) nd'.2
    rw [List.append_assoc] at this
    exact this
theorem loopD (body : Str × Value → Slots → Sem (ForInStep Slots)) : ∀ (l sl : Slots),
    (∀ q ∈ l, ∀ s : Slots, body q s = pure (.yield (if (s.lookup q.1).isNone = true then s ++ [q] else s))) → forIn l sl body = pure (addD sl l)
  | [], sl, _ => by simp [addD]
  | q :: l, sl, h => by
    rw [List.forIn_cons, h q List.mem_cons_self sl, pure_bind]
    exact loopD body l _ fun q' hq => h q' (List.mem_cons_of_mem _ hq)
theorem lookup_zip : ∀ {ps : List Str} {us : List Value} {i : Nat} {p : Str} {v : Value}, ps.Nodup → ps[i]? = some p → us[i]? = some v → (ps.zip us).lookup p = some v
  | [], _, _, _, _, _, h, _ => by simp at h
  | _ :: _, [], _, _, _, _, _, h => by simp at h
  | q :: ps, u :: us, 0, p, v, nd, h1, h2 => by
    simp at h1 h2; subst h1; subst h2
    simp [List.lookup]
  | q :: ps, u :: us, i + 1, p, v, nd, h1, h2 => by
    have hp : ps[i]? = some p := by simpa using h1
    have hb : (p == q) = false := beq_eq_false_iff_ne.mpr fun z => (List.nodup_cons.mp nd).1 (by rw [← z]; exact List.mem_of_getElem? hp)
    rw [List.zip_cons_cons, List.lookup_cons, hb]
    exact lookup_zip (List.nodup_cons.mp nd).2 hp (by simpa using h2)
theorem fst_zip : ∀ (ps : List Str) (us : List Value), (ps.zip us).map (·.1) = ps.take us.length
  | [], _ => by simp
  | _ :: _, [] => by simp
  | p :: ps, u :: us => by simp [fst_zip ps us]
theorem lookup_none {l : Slots} {p : Str} (h : p ∉ l.map (·.1)) : l.lookup p = none := by
  induction l with
  | nil => rfl
  | cons q l ih =>
    simp only [List.map_cons, List.mem_cons, not_or] at h
    have hb : (p == q.1) = false := beq_eq_false_iff_ne.mpr h.1
    rw [List.lookup_cons, hb]
    exact ih h.2
theorem addD_keep {p : Str} {v : Value} : ∀ (l sl : Slots), sl.lookup p = some v → (addD sl l).lookup p = some v
  | [], sl, h => h
  | q :: l, sl, h => by
    refine addD_keep l _ ?_
    split
    · rw [List.lookup_append, h]; rfl
    · exact h
theorem addD_new {p : Str} {v : Value} : ∀ (l sl : Slots), (l.map (·.1)).Nodup → sl.lookup p = none → l.lookup p = some v → (addD sl l).lookup p = some v
  | [], _, _, _, h => by cases h
  | q :: l, sl, nd, h, h2 => by
    rw [List.lookup_cons] at h2
    by_cases hb : (p == q.1) = true
    · rw [hb] at h2
      simp only [Option.some.injEq] at h2
      have e : p = q.1 := eq_of_beq hb
      refine addD_keep l _ ?_
      rw [← e, h]
      simp only [Option.isNone_none, if_true]
      rw [List.lookup_append, h, Option.none_or, ← h2]
      simp [List.lookup, hb]
    · have hb' : (p == q.1) = false := by simpa using hb
      rw [hb'] at h2
      refine addD_new l _ (List.nodup_cons.mp nd).2 ?_ h2
      split
      · rw [List.lookup_append, h, Option.none_or]
        simp [List.lookup, hb']
      · exact h
theorem binds_zip {sl : Slots} : ∀ {ps : List Str} {fs : List Value}, ps.length = fs.length → (∀ (i : Nat) p v, ps[i]? = some p → fs[i]? = some v → sl.lookup p = some v) →
    (ps.filterMap fun n => (sl.lookup n).map (n, ·)) = ps.zip fs
  | [], _, _, _ => by simp
  | p :: ps, [], h, _ => by simp at h
  | p :: ps, f :: fs, h, hl => by
    have h0 := hl 0 p f rfl rfl
    rw [List.filterMap_cons, h0]
    simp only [Option.map_some, List.zip_cons_cons]
    rw [binds_zip (by simpa using h) fun i q v e1 e2 => hl (i + 1) q v (by simpa using e1) (by simpa using e2)]
/-- the places that a call's arguments come from -/
def srcOf (ps ks : List Str) (n nd : Nat) : List Src := (List.range ps.length).map fun i =>
  if i < n then .pos i else match ks.findIdx? (fun k => some k == ps[i]?) with
    | some j => .kw j
    | none => .dfl (i + nd - ps.length)
/-- a call that binds: so many by place, the names ks, nd defaults -/
def bindOk (ps ks : List Str) (n nd : Nat) : Bool := decide (ps.Nodup) && decide (n ≤ ps.length) && decide (nd ≤ ps.length) && decide (ks.Nodup) && (ks.all fun k => decide (k ∈ ps.drop n)) &&
  ((List.range (ps.length - nd)).all fun i => decide (i < n) || ks.any fun k => some k == ps[i]?)
def pickV (us ws ds : List Value) : Src → Value
  | .pos i => us.getD i .none
  | .kw j => ws.getD j .none
  | .dfl i => ds.getD i .none
theorem bind_gen {fd : FuncData} {ps ks : List Str} {us ws ds : List Value} (hp : simpleP fd.params = true) (hps : fd.params.args.map (·.arg) = ps) (hb : bindOk ps ks us.length ds.length = true) (hw : ws.length = ks.length) :
    ∃ k, bindArgs fd ⟨us, ks.zip ws⟩ = seqItems? fd.defaults >>= k ∧ ∀ o : Option (Array Value), (o.getD #[]).toList = ds → k o = pure (ps.zip ((srcOf ps ks us.length ds.length).map (pickV us ws ds))) := by
  simp only [bindOk, Bool.and_eq_true, decide_eq_true_eq, List.all_eq_true, Bool.or_eq_true, List.any_eq_true, beq_iff_eq, List.mem_range] at hb
  obtain ⟨⟨⟨⟨⟨nd, hn⟩, hnd⟩, ksn⟩, hks⟩, hmiss⟩ := hb
  simp only [simpleP, Bool.and_eq_true, List.isEmpty_iff, Option.isNone_iff_eq_none] at hp
  obtain ⟨⟨⟨h1, h3⟩, h4⟩, h5⟩ := hp
  have hz : (ks.zip ws).map (·.1) = ks := List.map_fst_zip (by omega)
  have hnot : ∀ k ∈ ks, (ps.zip us).lookup k = none := fun k hk => by
    refine lookup_none fun m => ?_
    have hm : k ∈ ps.take us.length := by
      rwa [fst_zip] at m
    have h2 := hks k hk
    obtain ⟨i, hi, e1⟩ := List.mem_iff_getElem.mp hm
    obtain ⟨j, hj, e2⟩ := List.mem_iff_getElem.mp h2
    rw [List.getElem_take] at e1
    rw [List.getElem_drop] at e2
    have := (List.getElem_inj nd).mp (e1.trans e2.symm)
    simp at hi
    omega
  have hloop := fun (body : Str × Value → Slots × List (Str × Value) → Sem (ForInStep (Slots × List (Str × Value)))) (h : ∀ q ∈ ks.zip ws, ∀ s : Slots, s.lookup q.1 = none → body q (s, []) = pure (.yield (s ++ [q], []))) =>
    loopK ([] : List (Str × Value)) body (ks.zip ws) (ps.zip us) h (fun q hq => hnot q.1 (List.of_mem_zip hq).1) (by rw [hz]; exact ksn)
  refine ⟨?k, ?a, ?b⟩
  case a =>
    unfold bindArgs
    simp only [h1, hps, h3, h4, h5, List.map_nil, List.nil_append, List.append_nil]
    rw [hloop]
    · rw [pure_bind]
    · intro q hq s hs
      have hm : ps.contains q.1 = true := by
        rw [List.contains_iff_mem]
        exact List.mem_of_mem_drop (hks q.1 (List.of_mem_zip hq).1)
      rw [hm, hs]; rfl
  case b =>
    intro o ho
    have hlen : (ps.zip us ++ ks.zip ws : Slots) = (ps.zip us ++ ks.zip ws) := rfl
    have e1 : (decide (us.length > ps.length) && (none : Option Arg).isNone) = false := by
      rw [decide_eq_false (by omega)]; rfl
    simp only [ho]
    have e2 : ds.length - ps.length = 0 := by omega
    rw [e2, List.drop_zero]
    have e1' : (decide (us.length > ps.length) && (none : Option Arg).isNone) = false := e1
    have hmiss' : ((ps.take (ps.length - ds.length)).filter fun n => ((ps.zip us ++ ks.zip ws : Slots).lookup n).isNone) = [] := by
      rw [List.filter_eq_nil_iff]
      intro p hp
      obtain ⟨i, hi, e⟩ := List.mem_iff_getElem.mp hp
      simp only [List.length_take] at hi
      rw [List.getElem_take] at e
      have hi' : i < ps.length := by omega
      have hpi : ps[i]? = some p := by rw [List.getElem?_eq_getElem hi', e]
      have : ((ps.zip us ++ ks.zip ws : Slots).lookup p).isSome = true := by
        rw [List.lookup_append]
        by_cases hin : i < us.length
        · rw [lookup_zip nd hpi (List.getElem?_eq_getElem hin)]; rfl
        · rcases hmiss i (by omega) with h | ⟨k, hk, ek⟩
          · exact absurd h hin
          · rw [hpi] at ek
            cases ek
            rw [hnot p hk, Option.none_or]
            obtain ⟨j, hj, ej⟩ := List.mem_iff_getElem.mp hk
            rw [lookup_zip ksn (List.getElem?_eq_getElem hj |>.trans (by rw [ej])) (List.getElem?_eq_getElem (by omega : j < ws.length))]; rfl
      cases z : (ps.zip us ++ ks.zip ws : Slots).lookup p with
      | none => rw [z] at this; cases this
      | some v => simp
    rw [e1']
    simp only [Bool.false_eq_true, if_false, hmiss', List.isEmpty_nil, Bool.not_true]
    rw [loopD]
    · rw [pure_bind]
      simp only [List.forIn_nil, pure_bind]
      refine congrArg pure ?_
      refine binds_zip (by simp [srcOf]) fun i p v e3 e4 => ?_
      have hi : i < ps.length := (List.getElem?_eq_some_iff.mp e3).1
      simp only [srcOf, List.map_map, List.getElem?_map, List.getElem?_range hi, Option.map_some, Option.some.injEq, Function.comp_apply] at e4
      by_cases hin : i < us.length
      · rw [if_pos hin] at e4
        refine addD_keep _ _ ?_
        rw [List.lookup_append, lookup_zip nd e3 (List.getElem?_eq_getElem hin), ← e4]
        simp [pickV, hin]
      · rw [if_neg hin] at e4
        have hnz : (ps.zip us).lookup p = none := lookup_none fun m => by
          rw [fst_zip] at m
          obtain ⟨j, hj, ej⟩ := List.mem_iff_getElem.mp m
          rw [List.getElem_take] at ej
          obtain ⟨_, ei⟩ := List.getElem?_eq_some_iff.mp e3
          have := (List.getElem_inj nd).mp (ej.trans ei.symm)
          simp at hj
          omega
        cases hf : ks.findIdx? (fun k => some k == ps[i]?) with
        | some j =>
          rw [hf] at e4
          rw [List.findIdx?_eq_some_iff_getElem] at hf
          obtain ⟨hj, ek, _⟩ := hf
          rw [e3] at ek
          have ek' : ks[j] = p := by simpa using ek
          refine addD_keep _ _ ?_
          rw [List.lookup_append, hnz, Option.none_or, lookup_zip ksn (List.getElem?_eq_getElem hj |>.trans (by rw [ek'])) (List.getElem?_eq_getElem (by omega : j < ws.length)), ← e4]
          simp [pickV, show j < ws.length by omega]
        | none =>
          rw [hf] at e4
          rw [List.findIdx?_eq_none_iff] at hf
          have hpk : p ∉ ks := fun z => by
            have := hf p z
            rw [e3] at this
            simp at this
          have hge : ps.length - ds.length ≤ i := by
            rcases Nat.lt_or_ge i (ps.length - ds.length) with h | h
            · rcases hmiss i h with h | ⟨k, hk, ek⟩
              · exact absurd h hin
              · rw [e3] at ek
                cases ek
                exact absurd hk hpk
            · exact h
          have e5 : i + ds.length - ps.length = i - (ps.length - ds.length) := by omega
          have hid : i - (ps.length - ds.length) < ds.length := by omega
          refine addD_new _ _ ?_ ?_ ?_
          · rw [List.map_fst_zip (by simp; omega)]
            exact nd.sublist (List.drop_sublist _ _)
          · rw [List.lookup_append, hnz, Option.none_or]
            refine lookup_none ?_
            rw [hz]; exact hpk
          · refine (lookup_zip (i := i - (ps.length - ds.length)) (nd.sublist (List.drop_sublist _ _)) ?_ (List.getElem?_eq_getElem hid)).trans ?_
            · rw [List.getElem?_drop, ← e3]; congr 1; omega
            · rw [← e4]
              simp [pickV, e5, hid]
    · intro q hq s
      split <;> rfl
end Ev
end
section
/-! EvC6: sorted over data: ints, tuples of ints and texts. Own work. -/
set_option linter.all false
set_option autoImplicit false
set_option maxRecDepth 100000
set_option maxHeartbeats 2000000
namespace Ev
open PySem PySem.Spec PyProof.Rows L2
/-! ### the order of keys -/
theorem ltT_iff : ∀ (x y : Tx), ltT x y = true ↔ x < y
  | [], [] => by simp [ltT]
  | [], _ :: _ => by simp [ltT]
  | _ :: _, [] => by simp [ltT]
  | a :: x, b :: y => by
    rw [List.cons_lt_cons_iff, ltT]
    by_cases h : a = b
    · subst h
      rw [if_pos rfl, ltT_iff x y]
      simp
    · rw [if_neg h]
      simp [h]
theorem ltT_irr : ∀ x : Tx, ltT x x = false
  | [] => rfl
  | a :: x => by rw [ltT, if_pos rfl, ltT_irr x]
theorem ltT_tot : ∀ x y : Tx, ltT x y = false → ltT y x = false → x = y
  | [], [], _, _ => rfl
  | [], _ :: _, h, _ => by simp [ltT] at h
  | _ :: _, [], _, h => by simp [ltT] at h
  | a :: x, b :: y, h1, h2 => by
    rw [ltT] at h1 h2
    by_cases c : a = b
    · subst c
      rw [if_pos rfl] at h1 h2
      rw [ltT_tot x y h1 h2]
    · rw [if_neg c, decide_eq_false_iff_not] at h1
      rw [if_neg (Ne.symm c), decide_eq_false_iff_not] at h2
      omega
theorem ltT_asy : ∀ x y : Tx, ltT x y = true → ltT y x = false
  | [], [], h => by simp [ltT] at h
  | [], _ :: _, _ => by simp [ltT]
  | _ :: _, [], h => by simp [ltT] at h
  | a :: x, b :: y, h => by
    rw [ltT] at h ⊢
    by_cases c : a = b
    · subst c
      rw [if_pos rfl] at h ⊢
      exact ltT_asy x y h
    · rw [if_neg c, decide_eq_true_eq] at h
      rw [if_neg (Ne.symm c), decide_eq_false_iff_not]
      omega
theorem ltT_tr : ∀ x y z : Tx, ltT x y = true → ltT y z = true → ltT x z = true
  | [], [], [], _, h => by simp [ltT] at h
  | [], _ :: _, [], _, h => by simp [ltT] at h
  | [], _, _ :: _, _, _ => by simp [ltT]
  | _ :: _, [], _, h, _ => by simp [ltT] at h
  | _ :: _, _ :: _, [], _, h => by simp [ltT] at h
  | a :: x, b :: y, c :: z, h1, h2 => by
    rw [ltT] at h1 h2 ⊢
    by_cases e1 : a = b
    · subst e1
      rw [if_pos rfl] at h1
      by_cases e2 : a = c
      · subst e2
        rw [if_pos rfl] at h2 ⊢
        exact ltT_tr x y z h1 h2
      · rw [if_neg e2] at h2 ⊢
        exact h2
    · rw [if_neg e1, decide_eq_true_eq] at h1
      by_cases e2 : b = c
      · subst e2
        rw [if_neg e1]
        exact decide_eq_true h1
      · rw [if_neg e2, decide_eq_true_eq] at h2
        rw [if_neg (by omega)]
        exact decide_eq_true (by omega)
theorem ltC_irr (x : Int ⊕ Tx) : ltC x x = false := by
  cases x with
  | inl i => simp [ltC]
  | inr s => exact ltT_irr s
theorem ltC_asy {x y : Int ⊕ Tx} (h : ltC x y = true) : ltC y x = false := by
  cases x <;> cases y
  · simp only [ltC, decide_eq_true_eq] at h
    simp only [ltC, decide_eq_false_iff_not]
    omega
  · rfl
  · cases h
  · exact ltT_asy _ _ h
theorem ltC_tot {x y : Int ⊕ Tx} (h1 : ltC x y = false) (h2 : ltC y x = false) : x = y := by
  cases x <;> cases y
  · simp only [ltC, decide_eq_false_iff_not] at h1 h2
    congr 1
    omega
  · cases h1
  · cases h2
  · exact congrArg _ (ltT_tot _ _ h1 h2)
theorem ltC_tr {x y z : Int ⊕ Tx} (h1 : ltC x y = true) (h2 : ltC y z = true) : ltC x z = true := by
  cases x with
  | inl a => cases y with
    | inl b => cases z with
      | inl c =>
        simp only [ltC, decide_eq_true_eq] at h1 h2 ⊢
        omega
      | inr c => rfl
    | inr b => cases z with
      | inl c => cases h2
      | inr c => rfl
  | inr a => cases y with
    | inl b => cases h1
    | inr b => cases z with
      | inl c => cases h2
      | inr c => exact ltT_tr _ _ _ h1 h2
theorem ltK_irr : ∀ x : Ky, ltK x x = false
  | [] => rfl
  | a :: x => by rw [ltK, if_pos rfl, ltK_irr x]
theorem ltK_asy : ∀ x y : Ky, ltK x y = true → ltK y x = false
  | [], [], h => by simp [ltK] at h
  | [], _ :: _, _ => by simp [ltK]
  | _ :: _, [], h => by simp [ltK] at h
  | a :: x, b :: y, h => by
    rw [ltK] at h ⊢
    by_cases c : a = b
    · subst c
      rw [if_pos rfl] at h ⊢
      exact ltK_asy x y h
    · rw [if_neg c] at h
      rw [if_neg (Ne.symm c)]
      exact ltC_asy h
theorem ltK_tot : ∀ x y : Ky, ltK x y = false → ltK y x = false → x = y
  | [], [], _, _ => rfl
  | [], _ :: _, h, _ => by simp [ltK] at h
  | _ :: _, [], _, h => by simp [ltK] at h
  | a :: x, b :: y, h1, h2 => by
    rw [ltK] at h1 h2
    by_cases c : a = b
    · subst c
      rw [if_pos rfl] at h1 h2
      rw [ltK_tot x y h1 h2]
    · rw [if_neg c] at h1
      rw [if_neg (Ne.symm c)] at h2
      exact absurd (ltC_tot h1 h2) c
theorem ltK_tr : ∀ x y z : Ky, ltK x y = true → ltK y z = true → ltK x z = true
  | [], [], [], _, h => by simp [ltK] at h
  | [], _ :: _, [], _, h => by simp [ltK] at h
  | [], _, _ :: _, _, _ => by simp [ltK]
  | _ :: _, [], _, h, _ => by simp [ltK] at h
  | _ :: _, _ :: _, [], _, h => by simp [ltK] at h
  | a :: x, b :: y, c :: z, h1, h2 => by
    rw [ltK] at h1 h2 ⊢
    by_cases e1 : a = b
    · subst e1
      rw [if_pos rfl] at h1
      by_cases e2 : a = c
      · subst e2
        rw [if_pos rfl] at h2 ⊢
        exact ltK_tr x y z h1 h2
      · rw [if_neg e2] at h2 ⊢
        exact h2
    · rw [if_neg e1] at h1
      by_cases e2 : b = c
      · subst e2
        rw [if_neg e1]
        exact h1
      · rw [if_neg e2] at h2
        have e3 : a ≠ c := fun e => by
          subst e
          have := ltC_asy h1
          rw [this] at h2
          cases h2
        rw [if_neg e3]
        exact ltC_tr h1 h2
theorem swo_K {α : Type} (k : α → Ky) : SrtO.Swo fun v u => ltK (k v) (k u) := by
  refine ⟨fun x y h => ltK_asy _ _ h, fun x y z h1 h2 => ?_⟩
  cases q : ltK (k x) (k z) with
  | false => 
    cases q2 : ltK (k z) (k x) with
    | false => rfl
    | true =>
      cases q3 : ltK (k x) (k y) with
      | true =>
        have := ltK_tr _ _ _ q2 q3
        rw [h2] at this
        cases this
      | false =>
        have e := ltK_tot _ _ q3 h1
        rw [← e, q2] at h2
        cases h2
  | true => exact ltK_asy _ _ q
/-! ### insertion sort -/
section
variable {α β : Type}
theorem ins_perm (lt : α → α → Bool) (x : α) : ∀ l : List α, (insK lt x l).Perm (x :: l)
  | [] => .refl _
  | y :: l => by
    rw [insK]
    split
    · exact ((ins_perm lt x l).cons y).trans (.swap x y l)
    · exact .refl _
theorem srt_perm (lt : α → α → Bool) : ∀ l : List α, (isort lt l).Perm l
  | [] => .refl _
  | x :: l => by
    rw [isort]
    exact (ins_perm lt x _).trans ((srt_perm lt l).cons x)
theorem ins_srt {lt : α → α → Bool} (O : SrtO.Swo lt) (x : α) : ∀ {l : List α}, SrtO.Srtd lt l → SrtO.Srtd lt (insK lt x l)
  | [], _ => List.pairwise_singleton _ _
  | y :: l, h => by
    rw [insK]
    obtain ⟨h1, h2⟩ := List.pairwise_cons.1 h
    split
    · rename_i c
      refine List.pairwise_cons.2 ⟨fun z hz => ?_, ins_srt O x h2⟩
      rcases List.mem_cons.1 ((ins_perm lt x l).mem_iff.1 hz) with rfl | q
      · exact O.asym _ _ c
      · exact h1 z q
    · rename_i c
      have c := Bool.not_eq_true _ ▸ c
      refine List.pairwise_cons.2 ⟨fun z hz => ?_, h⟩
      rcases List.mem_cons.1 hz with rfl | q
      · exact c
      · exact O.tr x y z c (h1 z q)
theorem isort_srt {lt : α → α → Bool} (O : SrtO.Swo lt) : ∀ l : List α, SrtO.Srtd lt (isort lt l)
  | [] => List.Pairwise.nil
  | x :: l => by rw [isort]; exact ins_srt O x (isort_srt O l)
theorem ins_cls {lt : α → α → Bool} (O : SrtO.Swo lt) (x w : α) : ∀ l : List α, (insK lt x l).filter (SrtO.eqv lt w) = (x :: l).filter (SrtO.eqv lt w)
  | [] => rfl
  | y :: l => by
    rw [insK]
    split
    · rename_i c
      rw [List.filter_cons, ins_cls O x w l]
      by_cases ex : SrtO.eqv lt w x = true
      · have ey : ¬SrtO.eqv lt w y = true := fun ey => by
          obtain ⟨a1, a2⟩ := SrtO.eqv_iff.1 ex
          obtain ⟨b1, b2⟩ := SrtO.eqv_iff.1 ey
          -- y < x, w ~ x, w ~ y
          have := O.tr x w y a1 b2
          rw [this] at c
          cases c
        rw [if_neg ey, List.filter_cons, if_pos ex, List.filter_cons, if_pos ex, List.filter_cons, if_neg ey]
      · rw [List.filter_cons, if_neg ex, List.filter_cons, if_neg ex, List.filter_cons]
    · rfl
theorem isort_stb {lt : α → α → Bool} (O : SrtO.Swo lt) : ∀ l : List α, SrtO.Stb lt (isort lt l) l
  | [] => SrtO.Stb.refl _
  | x :: l => by
    refine ⟨srt_perm lt _, fun w => ?_⟩
    rw [isort, ins_cls O, List.filter_cons, List.filter_cons, (isort_stb O l).cls w]
theorem ins_map {lt : α → α → Bool} {lt' : β → β → Bool} (f : α → β) (h : ∀ x y, lt' (f x) (f y) = lt x y) (x : α) : ∀ l : List α, (insK lt x l).map f = insK lt' (f x) (l.map f)
  | [] => rfl
  | y :: l => by
    rw [insK, List.map_cons, insK, h]
    split
    · rw [List.map_cons, ins_map f h x l]
    · rfl
theorem isort_map {lt : α → α → Bool} {lt' : β → β → Bool} (f : α → β) (h : ∀ x y, lt' (f x) (f y) = lt x y) : ∀ l : List α, (isort lt l).map f = isort lt' (l.map f)
  | [] => rfl
  | x :: l => by rw [isort, List.map_cons, isort, ins_map f h, isort_map f h l]
end
/-! ### values by their keys -/
def comU : Value → Option (Int ⊕ Tx)
  | .int i _ => some (.inl i)
  | .str x _ => some (.inr x.cps.toList)
  | _ => none
theorem comU_l {u : Value} {i : Int} (h : comU u = some (.inl i)) : ∃ t, u = .int i t := by
  cases u <;> simp only [comU, Option.some.injEq, Sum.inl.injEq, reduceCtorEq] at h
  exact ⟨_, by rw [h]⟩
theorem comU_r {u : Value} {x : Tx} (h : comU u = some (.inr x)) : ∃ t, u = .str (tx x) t := by
  cases u <;> simp only [comU, Option.some.injEq, Sum.inr.injEq, reduceCtorEq] at h
  rename_i z t
  exact ⟨t, by rw [← h]; simp [tx]⟩
/-- at v: a tuple of ints and texts -/
def TupK (h : Heap) (v : Value) (k : Ky) : Prop := ∃ a o its n, v = .ref a ∧ h.get? a = some o ∧ o.cls = .type "tuple" ∧ o.data = .seq its n ∧ its.toList.map comU = k.map some
theorem TupK.keeps {h h' : Heap} {v : Value} {k : Ky} (p : TupK h v k) (kp : ∀ b o, h.get? b = some o → o.cls = .type "tuple" → h'.get? b = some o) : TupK h' v k := by
  obtain ⟨a, o, its, n, e, ho, hc, hd, hk⟩ := p
  exact ⟨a, o, its, n, e, kp _ _ ho hc, hc, hd, hk⟩
section
variable {prog : Program} {w : World} {A : Around} {E : Value → Shared → Prop} {s : Shared}
theorem oneI {b : Bool} {x y : Int} {t u : Tok} {Q : Bool → Shared → Prop} (h : Q (decide (x < y)) s) : wpAny (model prog w) A (oneLt' b (.int x t) (.int y u)) Q E s := by
  cases b with
  | true => exact oneLt_int h
  | false => exact PySem.W.kat_one _ _ (PyProof.Rows.lt_int h)
theorem oneT {b : Bool} {x y : Tx} {t u : Tok} {Q : Bool → Shared → Prop} (h : Q (ltT x y) s) : wpAny (model prog w) A (oneLt' b (.str (tx x) t) (.str (tx y) u)) Q E s := by
  have e : decide ((tx x).cps.toList < (tx y).cps.toList) = ltT x y := by
    have := ltT_iff x y
    cases q : ltT x y with
    | true => exact decide_eq_true (this.1 q)
    | false => exact decide_eq_false fun z => by rw [this.2 z] at q; cases q
  rw [← e] at h
  cases b with
  | true => exact oneLt_str h
  | false => exact PySem.W.kat_one _ _ (PyProof.Rows.lt_str h)
theorem lex_go {Q : Bool → Shared → Prop} : ∀ (us vs : List Value) (k l : Ky) (i : Nat), us.map comU = k.map some → vs.map comU = l.map some → k.map isL = l.map isL → Q (ltK k l) s → PySem.W.KatLex prog w A true false Q (us.zip vs) i s
  | [], [], k, l, i, hk, hl, _, h => by
    obtain rfl : k = [] := by simpa using hk.symm
    obtain rfl : l = [] := by simpa using hl.symm
    exact PySem.W.kat_nil h
  | [], _ :: _, k, l, i, hk, hl, hq, h => by
    obtain rfl : k = [] := by simpa using hk.symm
    cases l with
    | nil => simp at hl
    | cons b l => simp at hq
  | _ :: _, [], k, l, i, hk, hl, hq, h => by
    obtain rfl : l = [] := by simpa using hl.symm
    cases k with
    | nil => simp at hk
    | cons b l => simp at hq
  | u :: us, v :: vs, k, l, i, hk, hl, hq, h => by
    cases k with
    | nil => simp at hk
    | cons a k =>
    cases l with
    | nil => simp at hl
    | cons b l =>
    simp only [List.map_cons, List.cons.injEq] at hk hl hq
    have go := lex_go (Q := Q) us vs k l (i + 1) hk.2 hl.2 hq.2
    rw [ltK] at h
    cases a with
    | inl x => cases b with
      | inr y => cases hq.1
      | inl y =>
        obtain ⟨t, rfl⟩ := comU_l hk.1
        obtain ⟨t', rfl⟩ := comU_l hl.1
        refine PySem.W.kat_cons (SeqAt.EqAt.int_int x t y t' prog w _ _ ?_)
        refine PySem.W.kat_go (fun e1 => ?_) (fun e1 => ?_)
        · have ex : x = y := by simpa using e1
          subst ex
          rw [if_pos rfl] at h
          exact PySem.W.kat_yes (go h)
        · have ex : ¬x = y := by simpa using e1
          rw [if_neg (by simpa using ex)] at h
          exact PySem.W.kat_no (oneI h)
    | inr x => cases b with
      | inl y => cases hq.1
      | inr y =>
        obtain ⟨t, rfl⟩ := comU_r hk.1
        obtain ⟨t', rfl⟩ := comU_r hl.1
        refine PySem.W.kat_cons (SeqAt.EqAt.str_str (tx x) t (tx y) t' prog w _ _ ?_)
        refine PySem.W.kat_go (fun e1 => ?_) (fun e1 => ?_)
        · have ex : x = y := by
            have e2 : tx x = tx y := by simpa using e1
            have := congrArg (fun z => z.cps.toList) e2
            simpa [tx] using this
          subst ex
          rw [if_pos rfl] at h
          exact PySem.W.kat_yes (go h)
        · have ex : ¬x = y := fun e => by subst e; simp at e1
          rw [if_neg (by simpa using ex)] at h
          exact PySem.W.kat_no (oneT h)
theorem tup_cmp {vs : List Value} {k : Value → Ky} {κ : List Bool} (hp : ∀ v ∈ vs, TupK s.heap v (k v) ∧ (k v).map isL = κ) : SrtO.Cmp prog w A s (tuples' true) (fun p => p.1 ∈ vs) (SrtO.lt2 fun v u => ltK (k v) (k u)) := by
  intro p q hm hm'
  obtain ⟨h1, e1⟩ := hp _ hm
  obtain ⟨h2, e2⟩ := hp _ hm'
  show wpAny (model prog w) A (keyLt' (tuples' true) p.1 q.1) (fun r s' => s' = s ∧ r = ltK (k p.1) (k q.1)) (fun _ _ => False) s
  generalize k p.1 = x at *
  generalize k q.1 = y at *
  obtain ⟨a, o, its, n, e, ho, hc, hd, hk⟩ := h1
  obtain ⟨a', o', its', n', e', ho', hc', hd', hk'⟩ := h2
  rw [e, e']
  refine PySem.W.kat_lt ho hd ho' hd' ?_
  have l1 : its.size = x.length := by simpa using congrArg List.length hk
  have l2 : its'.size = y.length := by simpa using congrArg List.length hk'
  have l3 : x.length = y.length := by simpa using congrArg List.length (e1.trans e2.symm)
  rw [show decide (its.size < its'.size) = false from decide_eq_false (by omega)]
  exact lex_go _ _ x y 0 hk hk' (e1.trans e2.symm) ⟨rfl, rfl⟩
theorem firsts_K {h : Heap} {k : Value → Ky} {b : Bool} {κ : List Bool} : ∀ {vs : List Value}, (∀ v ∈ vs, TupK h v (k v) ∧ (k v).map isL = b :: κ) → ∃ fs : List Value, PySem.W.KatTups h vs fs ∧ fs.length = vs.length ∧ ∀ f ∈ fs, ∃ c, comU f = some c ∧ isL c = b
  | [], _ => ⟨[], PySem.W.KatTups.nil, rfl, fun _ hm => by simp at hm⟩
  | v :: vs, hp => by
    obtain ⟨fs, h1, h2, h3⟩ := firsts_K (vs := vs) fun v' hm => hp v' (List.mem_cons_of_mem _ hm)
    obtain ⟨⟨a, o, its, n, e, ho, hc, hd, hk⟩, hq⟩ := hp v (List.mem_cons_self ..)
    cases q : k v with
    | nil => rw [q] at hq; simp at hq
    | cons c cs =>
      rw [q] at hq hk
      simp only [List.map_cons, List.cons.injEq] at hq
      cases e2 : its.toList with
      | nil => rw [e2] at hk; simp at hk
      | cons f rest =>
        rw [e2] at hk
        simp only [List.map_cons, List.cons.injEq] at hk
        subst e
        have e0 : its[0]? = some f := by rw [← Array.getElem?_toList, e2]; rfl
        refine ⟨f :: fs, PySem.W.KatTups.cons ho hc hd e0 h1, by rw [List.length_cons, List.length_cons, h2], fun g hm => ?_⟩
        rcases List.mem_cons.mp hm with rfl | hm
        · exact ⟨c, hk.1, hq.1⟩
        · exact h3 g hm
theorem tup_sortable {a : Addr} {vs : List Value} {k : Value → Ky} {b : Bool} {κ : List Bool} (h0 : 0 < vs.length) (hp : ∀ v ∈ vs, TupK s.heap v (k v) ∧ (k v).map isL = b :: κ) (ha : ∀ o, s.heap.get? a = some o → o.cls ≠ .type "tuple") :
    SrtO.SortableO prog w A s a vs fun v u => ltK (k v) (k u) := by
  intro h' keep
  have hp' : ∀ v ∈ vs, TupK h' v (k v) ∧ (k v).map isL = b :: κ := fun v hm => ⟨(hp v hm).1.keeps fun b o e c => keep b o (fun z => by subst z; exact ha o e c) e, (hp v hm).2⟩
  obtain ⟨fs, h1, h2, h3⟩ := firsts_K hp'
  refine ⟨tuples' true, fun Q E hq => ?_, tup_cmp (s := { s with heap := h' }) hp'⟩
  cases b with
  | true =>
    refine PySem.W.kat_kind (T := .type "int") h1 (by omega) (fun f hm => ?_) (by rfl) ?_
    · obtain ⟨c, e1, e2⟩ := h3 f hm
      cases c with
      | inl x =>
        obtain ⟨t, rfl⟩ := comU_l e1
        exact PySem.W.Looks.now
      | inr x => cases e2
    · have e : (Value.type "int" != Value.type "tuple") = true := by decide +kernel
      rw [e]
      exact hq
  | false =>
    refine PySem.W.kat_kind (T := .type "str") h1 (by omega) (fun f hm => ?_) (by rfl) ?_
    · obtain ⟨c, e1, e2⟩ := h3 f hm
      cases c with
      | inl x => cases e2
      | inr x =>
        obtain ⟨t, rfl⟩ := comU_r e1
        exact PySem.W.Looks.now
    · have e : (Value.type "str" != Value.type "tuple") = true := by decide +kernel
      rw [e]
      exact hq
end
section
variable {α : Type}
theorem ins_congr {lt lt' : α → α → Bool} {x : α} : ∀ {l : List α}, (∀ y ∈ l, lt y x = lt' y x) → insK lt x l = insK lt' x l
  | [], _ => rfl
  | y :: l, h => by
    rw [insK, insK, h y List.mem_cons_self, ins_congr fun z hz => h z (List.mem_cons_of_mem _ hz)]
theorem isort_congr {lt lt' : α → α → Bool} : ∀ {l : List α}, (∀ x ∈ l, ∀ y ∈ l, lt x y = lt' x y) → isort lt l = isort lt' l
  | [], _ => rfl
  | x :: l, h => by
    have e := isort_congr (l := l) fun y hy z hz => h y (List.mem_cons_of_mem _ hy) z (List.mem_cons_of_mem _ hz)
    rw [isort, isort, e]
    exact ins_congr fun y hy => h y (List.mem_cons_of_mem _ ((srt_perm lt' l).mem_iff.1 hy)) x List.mem_cons_self
end
def KeyAt (h : Heap) (u : Value) (k : Ky) : Prop := (∃ i t, u = .int i t ∧ k = [.inl i]) ∨ TupK h u k
theorem map_some_inj {α : Type} : ∀ {a b : List α}, a.map some = b.map some → a = b
  | [], [], _ => rfl
  | [], _ :: _, h => by simp at h
  | _ :: _, [], h => by simp at h
  | x :: a, y :: b, h => by
    simp only [List.map_cons, List.cons.injEq, Option.some.injEq] at h
    rw [h.1, map_some_inj h.2]
theorem KeyAt.uniq {h : Heap} {u : Value} {k l : Ky} (a : KeyAt h u k) (b : KeyAt h u l) : k = l := by
  rcases a with ⟨i, t, rfl, rfl⟩ | ⟨a, o, its, n, rfl, ho, hc, hd, hk⟩
  · rcases b with ⟨j, t', e, rfl⟩ | ⟨a, o, its, n, e, _⟩
    · cases e; rfl
    · cases e
  · rcases b with ⟨j, t', e, rfl⟩ | ⟨a', o', its', n', e, ho', hc', hd', hk'⟩
    · cases e
    · cases e
      rw [ho] at ho'
      cases ho'
      rw [hd] at hd'
      cases hd'
      rw [hk] at hk'
      exact map_some_inj hk'
/-- a list's or a tuple's items -/
def SeqO (h : Heap) (l : Addr) (vs : List Value) : Prop := h.IsList l vs.toArray ∨ h.IsTuple l vs.toArray
section
open SrtO Srt
variable {prog : Program} {w : World} {A : Around} {E : Value → Shared → Prop} {s : Shared}
theorem collect_tup {l : Addr} {vs : List Value} {Q : List Value → Shared → Prop} (hl : s.heap.IsTuple l vs.toArray)
    (h : Q vs { s with heap := (s.heap.push (seqObj "list" #[] 0)).update s.heap.objs.size (Obj.mapSeq (· ++ vs.toArray)) }) (hsz : vs.length ≤ sizeLine) :
    wpAny (model prog w) A (collect (.ref l)) Q E s := by
  obtain ⟨o, ho, hc, n, hd⟩ := id hl
  unfold collect
  refine wpAny_bind (wpAny_runValue (codeAny_builtin entry_proto_collect' ?_))
  show wpAny _ _ (do again (.builtin "list.__iadd__" ⟨[← newList [], .ref l], []⟩)) _ _ s
  refine wpAny_bind (wpAny_newList (wpAny_pure ⟨Code.quiet_builtin _ (by decide +kernel), codeAny_builtin entry_list_iadd' ?_⟩))
  show wpAny _ _ (Builtin.List.listExtendWith (.ref s.heap.objs.size) (.ref l) (.ref s.heap.objs.size)) _ _ { s with heap := s.heap.push (seqObj "list" #[] 0) }
  unfold Builtin.List.listExtendWith
  have ho' : (s.heap.push (seqObj "list" #[] 0)).get? l = some o := Heap.get?_push_of_some _ ho
  refine wpAny_bind (wpAny_typeOf (T := "tuple") ⟨o, ho', hc⟩ ?_)
  have ht : (Value.type "tuple" == Value.type "tuple") = true := by rfl
  rw [if_pos (by rw [ht]; simp)]
  refine wpAny_bind (listItems_at ho' hd ?_)
  refine wpAny_bind (listItems_at (xs := #[]) (n := 0) (Heap.get?_push_size _ rfl) rfl ?_)
  rw [if_neg (by simp)]
  refine wpAny_bind (listUpdate_at (xs := #[]) (n := 0) (Heap.get?_push_size _ rfl) rfl ?_ (Nat.zero_le _) (by show (#[] ++ vs.toArray).size ≤ sizeLine + 1; simp only [Array.size_append, List.size_toArray, List.length_nil]; omega))
  refine wpAny_pure ?_
  show wpAny (model prog w) A (do
      let o ← load s.heap.objs.size
      match o.data with
      | .seq xs _ => pure xs.toList
      | _ => unsupported "internal:collect") Q E { s with heap := (s.heap.push (seqObj "list" #[] 0)).update s.heap.objs.size (Obj.mapSeq (· ++ vs.toArray)) }
  refine wpAny_bind (wpAny_load (get?_update_seq (Heap.get?_push_size _ rfl) _) ?_)
  show wpAny _ _ (pure ((#[] : Array Value) ++ vs.toArray).toList) Q E _
  rw [show ((#[] : Array Value) ++ vs.toArray).toList = vs by simp]
  exact wpAny_pure h
theorem sorted_seq {l : Addr} {vs : List Value} {ltv : Value → Value → Bool} {Q : Value → Shared → Prop} (O : Swo ltv) (hl : SeqO s.heap l vs) (hz : vs.length ≤ sizeLine)
    (hS : 2 ≤ vs.length → ∀ (h₁ : Heap) (a : Addr), h₁.get? a = some (seqObj "list" vs.toArray 0) → (∀ b o, s.heap.get? b = some o → b ≠ a ∧ h₁.get? b = some o) → SortableO prog w A.in1.in1 { s with heap := h₁ } a vs ltv)
    (h : ∀ out : List Value, Srtd ltv out → Stb ltv out vs → Q (.ref (s.heap.objs.size + 1)) { s with heap := sortedAll s.heap vs out.toArray }) :
    wpAny (model prog w) A (call (.builtin "sorted") [.ref l]) Q E s := by
  rcases hl with hl | hl
  · exact sorted_ord O hl hz hS h
  refine Calls.call_function_entry kind_sorted plain_sorted entry_sorted (args_sorted1 _) ?_
  unfold Builtin.«sorted»
  refine wpAny_bind (m := checkCount "sorted" 1 1 _) (wpAny_pure ?_)
  refine wpAny_bind (collect_tup hl ?_ hz)
  refine wpAny_bind (wpAny_newList ?_ hz)
  have hsz : ((s.heap.push (seqObj "list" #[] 0)).update s.heap.objs.size (Obj.mapSeq (· ++ vs.toArray))).objs.size = s.heap.objs.size + 1 := by
    rw [Heap.size_update, size_push']
  have hoL : (((s.heap.push (seqObj "list" #[] 0)).update s.heap.objs.size (Obj.mapSeq (· ++ vs.toArray))).push (seqObj "list" vs.toArray 0)).get? (s.heap.objs.size + 1) = some (seqObj "list" vs.toArray 0) := by
    rw [← hsz]; exact Heap.get?_push_size _ rfl
  have keep : ∀ b o, s.heap.get? b = some o → b ≠ s.heap.objs.size + 1 ∧ (((s.heap.push (seqObj "list" #[] 0)).update s.heap.objs.size (Obj.mapSeq (· ++ vs.toArray))).push (seqObj "list" vs.toArray 0)).get? b = some o := fun b o q => by
    have hlt : b < s.heap.objs.size := Heap.lt_size q
    refine ⟨Nat.ne_of_lt (Nat.lt_succ_of_lt hlt), Heap.get?_push_of_some _ ?_⟩
    rw [Heap.get?_update_ne _ _ _ _ (Nat.ne_of_lt hlt)]
    exact Heap.get?_push_of_some _ q
  show wpAny _ _ _ _ _ { s with heap := ((s.heap.push (seqObj "list" #[] 0)).update s.heap.objs.size (Obj.mapSeq (· ++ vs.toArray))).push (seqObj "list" vs.toArray 0) }
  rw [hsz]
  refine wpAny_bind (wpAny_holding (wpAny_call_entry slot_list_sort ⟨_, hoL, rfl⟩ entry_list_sort (list_sort_ord O hoL hz (fun h2 => hS h2 _ _ hoL keep) fun out hs hb => ⟨_, rfl, ?_⟩) (args_list_sort _)))
  exact wpAny_pure ⟨_, rfl, h out hs hb⟩
/-- ints, or tuples of the same kinds -/
theorem any_sortable {a : Addr} {vs : List Value} {k : Value → Ky} (h2 : 2 ≤ vs.length) (hp : (∀ v ∈ vs, ∃ i t, v = .int i t ∧ k v = [.inl i]) ∨ ∃ b κ, ∀ v ∈ vs, TupK s.heap v (k v) ∧ (k v).map isL = b :: κ) (ha : ∀ o, s.heap.get? a = some o → o.cls ≠ .type "tuple") :
    SortableO prog w A s a vs fun v u => ltK (k v) (k u) := by
  rcases hp with hp | ⟨b, κ, hp⟩
  · have hI : IntsAre vs (vs.map iv) := ints_iv fun v hv => by
      obtain ⟨i, t, e, _⟩ := hp v hv
      exact ⟨i, t, e⟩
    intro h' keep
    obtain ⟨κ, q1, q2⟩ := ints_sortable (prog := prog) (w := w) (A := A) (s := s) (a := a) hI h2 h' keep
    refine ⟨κ, q1, fun p q hm hm' => wpAny_mono (q2 p q hm hm') (fun r s' z => ⟨z.1, z.2.trans ?_⟩) fun _ _ z => z⟩
    obtain ⟨i, t, e, ek⟩ := hp _ hm
    obtain ⟨j, u, e', ek'⟩ := hp _ hm'
    show ltIv p.1 q.1 = ltK (k p.1) (k q.1)
    rw [ek, ek', e, e']
    show decide (i < j) = ltK [.inl i] [.inl j]
    rw [ltK]
    by_cases c : i = j
    · subst c; simp [ltK]
    · rw [if_neg (by simpa using c)]; rfl
  · exact tup_sortable (by omega) hp ha
end
/-! ### over the layer -/
theorem comsK_v {L : Lay} {H : Hp} {al : List Addr} : ∀ {ds : List D} {vs : List V} {us : List Value} {k : Ky}, comsK ds = some k → RepDs L H al ds vs → Vals vs us → us.map comU = k.map some
  | [], _, _, k, e, r, v => by
    simp only [comsK, Option.some.injEq] at e
    subst e
    obtain rfl := r
    cases v
    rfl
  | d :: ds, _, _, k, e, r, v => by
    obtain ⟨x, xs, rfl, r1, r2⟩ := r
    simp only [comsK] at e
    obtain ⟨a, ea, e⟩ := Option.bind_eq_some_iff.1 e
    obtain ⟨k', ek, rfl⟩ := Option.map_eq_some_iff.1 e
    cases v with
    | cons rv rr =>
      rename_i u us
      rw [List.map_cons, List.map_cons, comsK_v ek r2 rr]
      congr 1
      cases d <;> simp only [comK, Option.some.injEq, reduceCtorEq] at ea <;> subst ea
      · obtain rfl : x = .int _ := by simpa only [RepD] using r1
        obtain ⟨t, rfl⟩ := rv
        rfl
      · obtain rfl : x = .str _ := by simp only [RepD] at r1; exact r1.1
        obtain ⟨t, rfl⟩ := rv
        show some (Sum.inr (tx _).cps.toList) = _
        simp [tx]
theorem trips {L : Lay} {H : Hp} {al : List Addr} : ∀ {ds : List D} {vs : List V} {us : List Value}, RepDs L H al ds vs → Vals vs us →
    ∃ ts : List (D × V × Value), ts.map (·.1) = ds ∧ ts.map (·.2.1) = vs ∧ ts.map (·.2.2) = us ∧ ∀ t ∈ ts, RepD L H al t.1 t.2.1 ∧ RelV t.2.1 t.2.2
  | [], _, _, r, v => by
    obtain rfl := r
    cases v
    exact ⟨[], rfl, rfl, rfl, fun _ h => by cases h⟩
  | d :: ds, _, _, r, v => by
    obtain ⟨x, xs, rfl, r1, r2⟩ := r
    cases v with
    | cons rv rr =>
      rename_i u us
      obtain ⟨ts, e1, e2, e3, h⟩ := trips r2 rr
      refine ⟨(d, x, u) :: ts, by rw [List.map_cons, e1], by rw [List.map_cons, e2], by rw [List.map_cons, e3], fun t ht => ?_⟩
      rcases List.mem_cons.1 ht with rfl | q
      · exact ⟨r1, rv⟩
      · exact h t q
theorem trips_back {L : Lay} {H : Hp} {al : List Addr} : ∀ {ts : List (D × V × Value)}, (∀ t ∈ ts, RepD L H al t.1 t.2.1 ∧ RelV t.2.1 t.2.2) → RepDs L H al (ts.map (·.1)) (ts.map (·.2.1)) ∧ Vals (ts.map (·.2.1)) (ts.map (·.2.2))
  | [], _ => ⟨RepDs.nil, .nil⟩
  | t :: ts, h => by
    obtain ⟨h1, h2⟩ := trips_back fun t ht => h t (List.mem_cons_of_mem _ ht)
    obtain ⟨h3, h4⟩ := h t List.mem_cons_self
    exact ⟨.cons h3 h1, .cons h4 h2⟩
open Classical in
noncomputable def kOf (ts : List (D × V × Value)) (u : Value) : Ky := if h : ∃ t ∈ ts, t.2.2 = u then srtKey h.choose.1 else []
theorem kOf_is {h : Heap} {ts : List (D × V × Value)} (hk : ∀ t ∈ ts, KeyAt h t.2.2 (srtKey t.1)) {t : D × V × Value} (ht : t ∈ ts) : kOf ts t.2.2 = srtKey t.1 := by
  have e : ∃ x ∈ ts, x.2.2 = t.2.2 := ⟨t, ht, rfl⟩
  unfold kOf
  rw [dif_pos e]
  have c := e.choose_spec
  have q := hk _ c.1
  rw [c.2] at q
  exact q.uniq (hk t ht)
theorem isTk_ok {κ : List Bool} {d : D} (h : isTk κ d = true) : ∃ es k, d = .tup es ∧ comsK es = some k ∧ srtKey d = k ∧ k.map isL = κ := by
  unfold isTk at h
  split at h
  · rename_i es
    split at h
    · rename_i k ek
      exact ⟨es, k, rfl, ek, by simp [srtKey, keyK, ek], of_decide_eq_true h⟩
    · cases h
  · cases h
theorem isIn_ok {d : D} (h : isIn d = true) : ∃ i, d = .int i := by
  cases d <;> simp [isIn] at h
  exact ⟨_, rfl⟩
section
variable {L : Lay} {X : Cx}
theorem cl_sortS (hK : L.K = X.K) {pins : List (Addr × Obj)} {s : Shared} {σ : L2.St} {H : Hp} {Q : VK} {al : List Addr} {S : Store} {a : Addr} {ds : List D} {vs : List V} {its : List Value} (I : Inv X pins σ H s) (rv : RepDs L H al ds vs) (rr : Vals vs its) (hl : SeqO s.heap a its) (hz : vs.length ≤ sizeLine)
    (ok : srtOk ds = true) (g : OpS L H S al (.lst (sortD ds)) Q) : wpAny (model X.prog X.w) X.A (call (.builtin "sorted") [.ref a]) (EP X pins σ Q) X.xe s := by
  obtain ⟨ts, e1, e2, e3, ht⟩ := trips rv rr
  have hlen : its.length = vs.length := rr.length.symm
  have kk : (∀ t ∈ ts, ∃ i u, t.2.2 = .int i u ∧ srtKey t.1 = [.inl i]) ∨ ∃ b κ, ∀ t ∈ ts, TupK s.heap t.2.2 (srtKey t.1) ∧ (srtKey t.1).map isL = b :: κ := by
    cases ds with
    | nil =>
      left
      have : ts = [] := by simpa using e1
      subst this
      intro t ht
      cases ht
    | cons d0 ds =>
      unfold srtOk at ok
      rcases (Bool.or_eq_true_iff).1 ok with q | q
      · left
        intro t mt
        have md : t.1 ∈ d0 :: ds := by rw [← e1]; exact List.mem_map_of_mem mt
        obtain ⟨i, ei⟩ := isIn_ok (List.all_eq_true.1 q _ md)
        obtain ⟨h1, h2⟩ := ht t mt
        rw [ei] at h1
        have h3 : t.2.1 = .int i := by simpa only [RepD] using h1
        rw [h3] at h2
        obtain ⟨u, hu⟩ := h2
        exact ⟨i, u, hu, by rw [ei]; rfl⟩
      · right
        split at q
        · rename_i a0 k0 ek0
          refine ⟨isL a0, k0.map isL, fun t mt => ?_⟩
          have md : t.1 ∈ d0 :: ds := by rw [← e1]; exact List.mem_map_of_mem mt
          obtain ⟨es, k, et, ek, es2, em⟩ := isTk_ok (List.all_eq_true.1 q _ md)
          obtain ⟨h1, h2⟩ := ht t mt
          rw [es2]
          refine ⟨?_, by rw [em]; rfl⟩
          rw [et] at h1
          obtain ⟨b, ws, hb, hs, rw_⟩ := (RepD.rt h1).tup
          rw [hb] at h2
          have hu : t.2.2 = .ref b := h2
          obtain ⟨us, r1, ⟨o, ho, hc, n, hd⟩, _⟩ := I.tuple (hK ▸ hs)
          exact ⟨b, o, _, n, hu, ho, hc, hd, by rw [List.toList_toArray]; exact comsK_v ek rw_ r1⟩
        · cases q
  have ka : ∀ t ∈ ts, KeyAt s.heap t.2.2 (srtKey t.1) := fun t mt => by
    rcases kk with q | ⟨b, κ, q⟩
    · obtain ⟨i, u, h1, h2⟩ := q t mt
      exact .inl ⟨i, u, h1, h2⟩
    · exact .inr (q t mt).1
  have kis := fun t (mt : t ∈ ts) => kOf_is ka mt
  have kv : (∀ v ∈ its, ∃ i t, v = .int i t ∧ kOf ts v = [.inl i]) ∨ ∃ b κ, ∀ v ∈ its, TupK s.heap v (kOf ts v) ∧ (kOf ts v).map isL = b :: κ := by
    rcases kk with q | ⟨b, κ, q⟩
    · refine .inl fun v hv => ?_
      rw [← e3] at hv
      obtain ⟨t, mt, rfl⟩ := List.mem_map.1 hv
      obtain ⟨i, u, h1, h2⟩ := q t mt
      exact ⟨i, u, h1, by rw [kis t mt, h2]⟩
    · refine .inr ⟨b, κ, fun v hv => ?_⟩
      rw [← e3] at hv
      obtain ⟨t, mt, rfl⟩ := List.mem_map.1 hv
      rw [kis t mt]
      exact q t mt
  refine sorted_seq (swo_K (kOf ts)) hl (by rw [hlen]; exact hz) (fun h2 h₁ a' ha' keep => ?_) fun out h1 h2 => ?_
  · refine any_sortable (s := { s with heap := h₁ }) h2 ?_ fun o e => ?_
    · rcases kv with q | ⟨b, κ, q⟩
      · exact .inl q
      · exact .inr ⟨b, κ, fun v hv => ⟨(q v hv).1.keeps fun b o e _ => (keep b o e).2, (q v hv).2⟩⟩
    · have e' : some o = some (seqObj "list" its.toArray 0) := e.symm.trans ha'
      cases e'
      intro c
      exact absurd (Value.type.inj c) (by decide)
  · let lt3 : D × V × Value → D × V × Value → Bool := fun x y => ltK (kOf ts x.2.2) (kOf ts y.2.2)
    have eo : out = (isort lt3 ts).map (·.2.2) := by
      rw [isort_map (lt' := fun v u => ltK (kOf ts v) (kOf ts u)) (fun t : D × V × Value => t.2.2) (fun _ _ => rfl) ts, e3]
      have O := swo_K (kOf ts)
      have st := isort_stb O its
      exact SrtO.stb_uniq O h1 (isort_srt O its) ⟨h2.perm.trans st.perm.symm, fun x => (h2.cls x).trans (st.cls x).symm⟩
    have ed : (isort lt3 ts).map (·.1) = sortD ds := by
      have c : isort lt3 ts = isort (fun x y => ltK (srtKey x.1) (srtKey y.1)) ts := isort_congr fun x hx y hy => by
        show ltK (kOf ts x.2.2) (kOf ts y.2.2) = _
        rw [kis x hx, kis y hy]
      rw [c, isort_map (lt' := fun a b => ltK (srtKey a) (srtKey b)) (fun t : D × V × Value => t.1) (fun _ _ => rfl) ts, e1]
      rfl
    obtain ⟨r1, r2⟩ := trips_back (L := L) (H := H) (al := al) (ts := isort lt3 ts) fun t mt => ht t ((srt_perm lt3 ts).mem_iff.1 mt)
    rw [ed] at r1
    rw [← eo] at r2
    obtain ⟨ep, he'⟩ := PyProof.Rows.sortedAll_at s.heap its out.toArray
    refine ⟨.ref _, upd H (s.heap.objs.size + 1) (.lst ((isort lt3 ts).map (·.2.1))), I.laid (t' := s.toks) (fun _ _ => PyProof.Rows.sortedAll_old) (Nat.le_succ _) ⟨?_, out, ep, r2, he'⟩, rfl, g.newL (I.hok.fresh (Nat.le_succ _)) r1⟩
    rw [List.length_map, (srt_perm lt3 ts).length_eq, ← List.length_map (f := fun t : D × V × Value => t.2.1), e2]
    exact hz
theorem cl_sorted (hK : L.K = X.K) : CallR X (.builtin "sorted") (rCl L (bi .sorted)) := by
  intro pins s σ H xs us Q I r h
  obtain ⟨ds, z, S, al, p, e, g⟩ := h
  simp only [bi] at e
  unfold fSorted at e
  split at e <;> (try contradiction) <;> simp only [Option.ite_none_right_eq_some, Option.some.injEq] at e
  · obtain ⟨⟨ok, hl⟩, rfl⟩ := e
    obtain ⟨x, rfl, r1⟩ := pair1 p
    obtain ⟨a, vs, rfl, ha, rv⟩ := r1
    obtain ⟨its, rr, hl2, hz⟩ := I.list (.inl (.inl ha))
    rw [Vals.ref1 r]
    exact cl_sortS hK I rv rr (.inl hl2.isList) hz ok g
  · obtain ⟨⟨ok, hl⟩, rfl⟩ := e
    obtain ⟨x, rfl, r1⟩ := pair1 p
    obtain ⟨a, vs, rfl, ha, rv⟩ := r1.tup
    obtain ⟨its, rr, hl2, hz⟩ := I.tuple (hK ▸ ha)
    rw [Vals.ref1 r]
    exact cl_sortS hK I rv rr (.inr hl2) hz ok g
end
end Ev
end
section
/-! EvC7: enumerate(a tuple). Own work. -/
set_option linter.all false
set_option autoImplicit false
set_option maxRecDepth 100000
set_option maxHeartbeats 2000000
namespace Ev
open PySem PySem.Spec PyProof.Rows L2
theorem meets_enu1 {v : Value} {o : Obj} {H : Heap → Prop} (B : Begins v o H) :
    Meets (Builtin.«enumerate.__new__» ⟨[.type "enumerate", v], []⟩) (fun _ R s => H s.heap ∧
      R (.ok (.ret (.ref (s.heap.push o).objs.size))) { s with heap := (s.heap.push o).push { cls := .type "enumerate", data := .fields #[.none, .bool false, .ref s.heap.objs.size, rawInt 0, .none, .none] } }) :=
  .of_wp fun prog w A R s h => by
    obtain ⟨hp, g, d, tk, os⟩ := s; obtain ⟨h1, h⟩ := h
    have hsub := sub_enumerate
    have q1 : ∀ {A' : Around} {E : Value → Shared → Prop} {Q : Value → Shared → Prop}, Q (.ref hp.objs.size) ⟨hp.push o, g, d, tk, os⟩ → wpAny (model prog w) A' (pyIter v) Q E ⟨hp, g, d, tk, os⟩ :=
      fun q => B.iter prog w _ _ ⟨hp, g, d, tk, os⟩ _ h1 q
    wp_walk using q1
    refine wpAny_stack_any fun st => wpAny_pure ?_
    split
    · rename_i c _ _ _ _ _
      cases (c == Value.type "enumerate")
      · wp_walk using q1
        exact ⟨_, rfl, h⟩
      · wp_walk using q1
        exact ⟨_, rfl, h⟩
    · wp_walk using q1
      exact ⟨_, rfl, h⟩
section
variable {prog : Program} {w : World} {A : Around} {E : Value → Shared → Prop} {s : Shared}
theorem enu_begins {v : Value} {o : Obj} {H : Heap → Prop} {Q : Value → Shared → Prop} (B : Begins v o H) (h1 : H s.heap)
    (h : ∀ h', IsEnum h' (s.heap.objs.size + 1) s.heap.objs.size 0 .none → h'.get? s.heap.objs.size = some o → h'.objs.size = s.heap.objs.size + 2 →
      (∀ b o, s.heap.get? b = some o → h'.get? b = some o) → Q (.ref (s.heap.objs.size + 1)) { s with heap := h' }) :
    wpAny (model prog w) A (call (.type "enumerate") [v]) Q E s := by
  refine callType_new F.called_enumerate (by decide) (F.typeCall_enumerate_1 _) (F.newCall_enumerate_1 _) (fun obj => F.args_object_init_2 obj _) F.entry_enumerate_new
    (meets_enu1 B) ⟨h1, ?_⟩
  have hz : (s.heap.push o).objs.size = s.heap.objs.size + 1 := Heap.size_push ..
  show _ ∧ _
  rw [hz]
  have he : IsEnum ((s.heap.push o).push { cls := .type "enumerate", data := .fields #[.none, .bool false, .ref s.heap.objs.size, rawInt 0, .none, .none] }) (s.heap.objs.size + 1) s.heap.objs.size 0 .none := by
    have := Heap.get?_push_size (s.heap.push o) (o := { cls := .type "enumerate", data := .fields #[.none, .bool false, .ref s.heap.objs.size, rawInt 0, .none, .none] }) rfl
    rw [hz] at this; exact this
  refine ⟨⟨_, he, rfl⟩, h _ he (Heap.get?_push_of_some _ (Heap.get?_push_size _ B.free)) (by rw [Heap.size_push, hz]) fun b o x => Heap.get?_push_of_some _ (Heap.get?_push_of_some _ x)⟩
end
/-- a tuple's items with their places -/
def Iett (K : PySem.W.Frag) (a : Addr) : L2.It :=
  ⟨fun i H => ∃ (xs : List V) (x : V), SqT K H a xs ∧ xs[i]? = some x, fun i H v H' => ∃ T x, v = .ref T ∧ H T = none ∧ H' = upd H T (.tup [.int (i : Nat), x]) ∧ ∀ xs, SqT K H a xs → xs[i]? = some x, fun i H => ∃ xs : List V, SqT K H a xs ∧ xs.length ≤ i⟩
theorem turn_enuT {P : Program} {w : World} {K : PySem.W.Frag} {elts : List Expr} {kk : Nat} {tpos : Pos} (a e it : Addr) (hai : a ≠ it) (hae : e ≠ a) :
    Turn P w K (.Tuple elts kk tpos) (Iett K a) [e, it] e (fun i h => (∃ old, IsEnum h e it ((i : Nat) : Int) old) ∧ h.IsTupleIter it a i ∧ e ≠ it) where
  mem := by simp
  obj := fun i h st b hb => by
    obtain ⟨⟨old, he⟩, ⟨o, ho, hc, hd⟩, _⟩ := st
    have e' : b = e ∨ b = it := by simpa using hb
    rcases e' with z | z
    · rw [z]; exact ⟨_, he, fun v q => nomatch q⟩
    · rw [z]; exact ⟨o, ho, fun v q => by rw [hd] at q; cases q⟩
  keep := fun i h h' st k => let ⟨⟨old, he⟩, hi, hne⟩ := st; ⟨⟨old, k e (by simp) _ he⟩, hi.at fun o q => k it (by simp) o q, hne⟩
  item := by
    intro X hP hw hK hc i pins s σ H E I hf st hg
    subst hP hw hK
    obtain ⟨⟨old, he⟩, hit, hne⟩ := st
    obtain ⟨xs, x, hq, hx⟩ := hg
    obtain ⟨its, rv, p, hz⟩ := I.tuple hq
    obtain ⟨u, hu, ru⟩ := rv.get hx
    have hel : e < s.heap.objs.size := Heap.lt_size he
    have hil : it < s.heap.objs.size := by obtain ⟨_, q, _⟩ := hit; exact Heap.lt_size q
    have il : i < its.toArray.size := by
      rw [List.size_toArray]
      exact (List.getElem?_eq_some_iff.1 hu).1
    refine wpAny_pyNext_enum_itemD (Draws.tuple (prog := X.prog) (w := X.w) (A := X.A.in1) (show X.A.in1.handled = none from I.ok.hd hc) it a hai its.toArray) he (show _ ∧ _ from ⟨hit, p⟩) il hne (by simp [hne, hae]) fun u' h' tk hPx ho hst hT hsz hk => ?_
    have eu : u' = u := by
      have : its[i]? = some u' := by simpa using hPx
      rw [hu] at this
      cases this
      rfl
    subst eu
    refine ⟨_, rfl, wpAny_letOwnedTupleGo_enum (s := { s with heap := h', toks := tk + 1 }) ho fun h'' he' sb => ?_⟩
    have hT2 : h''.get? s.heap.objs.size = some { cls := .type "tuple", data := .seq #[.int i tk, u'] } := (sb.2 _ (Nat.ne_of_gt hel)).trans hT
    have new : ObjOk X.prog X.w (upd H s.heap.objs.size (.tup [.int (i : Nat), x])) h'' s.heap.objs.size (.tup [.int (i : Nat), x]) :=
      ⟨by show 2 ≤ sizeLine; decide, [.int i tk, u'], .cons ⟨_, rfl⟩ (.cons ru .nil), ⟨_, hT2, rfl, _, rfl⟩⟩
    have I1 : Inv X pins σ (upd H s.heap.objs.size (.tup [.int (i : Nat), x])) { s with heap := h'', toks := tk + 1 } :=
      I.turnedNew (ch := [e, it]) (fun b ob hb q => (sb.2 b (fun z => hb (by simp [z]))).trans (hk b ob (fun z => hb (by simp [z])) (fun z => hb (by simp [z])) q)) hf (Nat.le_refl _) new
    refine ⟨.ref s.heap.objs.size, _, I1, rfl, ⟨_, x, rfl, I.hok.fresh (Nat.le_refl _), rfl, fun ys hy => by rw [I.tuple_inj hy hq]; exact hx⟩, ⟨⟨u', ?_⟩, hst.1.at fun o q => (sb.2 it (Ne.symm hne)).trans q, hne⟩, fun b hb => ?_⟩
    · have e1 : ((i + 1 : Nat) : Int) = (i : Int) + 1 := by omega
      rw [e1]; exact he'
    · have hb' : b < s.heap.objs.size := by
        have e' : b = e ∨ b = it := by simpa using hb
        rcases e' with z | z
        · rw [z]; exact hel
        · rw [z]; exact hil
      rw [upd_ne (Nat.ne_of_lt hb')]
      exact (hf b hb).1
  done := by
    intro X hP hw hK hc i pins s σ H E I hf st hg
    subst hP hw hK
    obtain ⟨⟨old, he⟩, hit, hne⟩ := st
    obtain ⟨xs, hq, hx⟩ := hg
    obtain ⟨its, rv, p, hz⟩ := I.tuple hq
    obtain ⟨f0, f1, f2, f3, f4, f5⟩ := hf it (by simp)
    have hl := rv.length
    have D : Draws X.prog X.w X.A.in1 it [it, a] i (fun _ _ => False) (fun j h => j = i ∧ h.IsTupleIter it a i ∧ h.IsTuple a its.toArray) :=
      ⟨fun _ _ st => let ⟨o, ho, _⟩ := st.2.1; ⟨o, ho⟩, fun _ _ _ st hk => ⟨st.1, st.2.1.at fun o e => hk it (by simp) o e, st.2.2.at fun o e => hk a (by simp) o e⟩,
        fun j s Q E hj st _ => absurd st.1 (Nat.ne_of_lt hj), fun s Q E st h => wpAny_nextOf_tuple_end (show X.A.in1.handled = none from I.ok.hd hc) st.2.1 st.2.2 (by simp; omega) h⟩
    exact wpAny_pyNext_enum_endD D he ⟨rfl, hit, p⟩ fun h' eb => ⟨rfl, I.turned (t' := s.toks) (fun b o hb q => eb b o hb q) f0 f1 f3 f4 f5⟩
  self := by
    intro A i s Q E st h
    obtain ⟨⟨old, he⟩, _⟩ := st
    exact wpAny_pyIter_enum he h
def iEnuT (K : PySem.W.Frag) (ta : TA) : TI := fun σ H R => ta σ H fun vs H1 => ∃ a xs, vs = [.ref a] ∧ SqT K H1 a xs ∧ R (Iett K a) H1
theorem pi_enuT {X : L2.Cx} {e : Expr} {ta : TA} {p pos tpos : Pos} {elts : List Expr} {kk : Nat} (hg : Gl X "enumerate") (hm : X.mg "enumerate" = none) (ha : PA X [e] ta) (hs : starEach [e] X.env = [(false, eval e X.env)] := by rfl) :
    PI X (.Tuple elts kk tpos) (.Call (.Name "enumerate" p) [e] [] pos) (iEnuT X.K ta) := by
  refine ⟨fun pins s σ H R I h => ?_⟩
  refine Call_ (ld_blt I hg hm boot_enumerate (PyProof.Rows.callWith_type1 (thn (ha.run pos pins s σ H _ I h) fun us s1 ⟨vs, H1, I1, r1, q1⟩ => ?_) hs rfl))
  obtain ⟨a, xs, ex, hq, q⟩ := q1
  subst ex
  cases r1 with
  | cons r rr =>
    cases rr
    cases r
    obtain ⟨its, rv, p', hz⟩ := I1.tuple hq
    have al : a < s1.heap.objs.size := by obtain ⟨o, ho, _⟩ := id p'; exact Heap.lt_size ho
    refine enu_begins (begins_tuple a its.toArray) p' fun h' he hit hsz hk => wpAny_pyIter_enum he ?_
    have I2 : Inv X pins σ H1 { s1 with heap := h' } := I1.kept (t' := s1.toks) hk
    refine ⟨s1.heap.objs.size + 1, [s1.heap.objs.size + 1, s1.heap.objs.size], _, _, H1, rfl, I2, turn_enuT a (s1.heap.objs.size + 1) s1.heap.objs.size (Nat.ne_of_lt al) (Nat.ne_of_gt (Nat.lt_succ_of_lt al)), ⟨⟨.none, he⟩, ⟨_, hit, rfl, rfl⟩, Nat.succ_ne_self _⟩, fun b hb => ?_, q⟩
    have e' : b = s1.heap.objs.size + 1 ∨ b = s1.heap.objs.size := by simpa using hb
    have hle : s1.heap.objs.size ≤ b := by
      rcases e' with z | z
      · rw [z]; exact Nat.le_add_right _ _
      · rw [z]; exact Nat.le_refl _
    exact I1.fpOk hle (I1.hok.fresh hle)
end Ev
end
section
/-! EvD1: what a run of the core promises; defs. Own work. -/
set_option linter.all false
set_option autoImplicit false
set_option maxRecDepth 100000
set_option maxHeartbeats 1000000
namespace Ev
open PySem PySem.Spec PyProof.Rows L2

/-- an exception of the text: class c, the values of its own fields -/
def XR (L : Lay) (H : Hp) (al : List Addr) (c : Nat) (vs : List D) (cls : Value) (d : Option Addr) : Prop :=
  cls = .ref (L.cls c) ∧ ((vs = [] ∧ L.flds c = [] ∧ d = none) ∨ ∃ dx fs, d = some dx ∧ H dx = some (.xd fs) ∧ dx ∉ al ∧ fs.map (·.1) = (L.flds c).map L.nm ∧ RepDs L H al vs (fs.map (·.2)))
section
variable {L : Lay} {H H' : Hp} {al al' : List Addr}
theorem XR.stay (k : ∀ a o, H a = some o → a ∉ al → H' a = some o ∧ a ∉ al') {c : Nat} {vs : List D} {cls : Value} {d : Option Addr} (h : XR L H al c vs cls d) : XR L H' al' c vs cls d := by
  obtain ⟨h1, h2⟩ := h
  refine ⟨h1, h2.imp id fun ⟨dx, fs, e, q, m, f, r⟩ => ⟨dx, fs, e, (k _ _ q m).1, (k _ _ q m).2, f, r.stay k⟩⟩
end

/-- what a run of the core from (H, al) promises: its end's value stands for a value that Q takes; a first part n of the store is the caller's -/
def Runs {α β : Type} (L : Lay) (n : Nat) (H : Hp) (al : List Addr) (Rp : Hp → List Addr → α → β → Prop) (m : R α) (Q : β → Hp → Prop) (E : XK) : Prop := match m with
  | .ok a S => ∀ b H' al', Step n H al H' al' → RelS L H' S al' → Rp H' al' a b → Q b H'
  | .ex c vs S => ∀ cls d H' al', Step n H al H' al' → RelS L H' S al' → XR L H' al' c vs cls d → E cls d H'
  | .bad => False
section
variable {α β γ δ : Type} {L : Lay} {n : Nat} {H : Hp} {al : List Addr} {Rp : Hp → List Addr → α → β → Prop} {Rq : Hp → List Addr → γ → δ → Prop} {m : R α} {f : α → Store → R γ} {Q : δ → Hp → Prop} {E : XK}
/-- from here on: the run's rest, at a later state -/
theorem Runs.on {k : R γ} {H1 : Hp} {al1 : List Addr} (h : Runs L n H al Rq k Q E) (st : Step n H al H1 al1) {n1 : Nat} (hn : n ≤ n1) : Runs L n1 H1 al1 Rq k Q E := by
  cases k with
  | ok a S => exact fun b H' al' s => h b H' al' (st.trans (s.mono hn))
  | ex c vs S => exact fun b d H' al' s => h b d H' al' (st.trans (s.mono hn))
  | bad => exact h
theorem Runs.bind (h : Runs L n H al Rq (m.bind f) Q E) {Q1 : β → Hp → Prop} (k : ∀ a S1 b H1 al1, m = .ok a S1 → Step n H al H1 al1 → RelS L H1 S1 al1 → Rp H1 al1 a b → Runs L al1.length H1 al1 Rq (f a S1) Q E → Q1 b H1) :
    Runs L n H al Rp m Q1 E := by
  cases m with
  | ok a S => exact fun b H' al' st rs rp => k a S b H' al' rfl st rs rp (Runs.on h st st.le')
  | ex c vs S => exact h
  | bad => exact h
theorem Runs.imp {k : R γ} {Q' : δ → Hp → Prop} (h : Runs L n H al Rq k Q E) (q : ∀ b H', Q b H' → Q' b H') : Runs L n H al Rq k Q' E := by
  cases k with
  | ok a S => exact fun b H' al' st rs rp => q b H' (h b H' al' st rs rp)
  | ex c vs S => exact h
  | bad => exact h
/-- its end at once -/
theorem Runs.here {a : γ} {S : Store} {b : δ} (h : Runs L n H al Rq (.ok a S) Q E) (hn : n ≤ al.length) (rs : RelS L H S al) (r : Rq H al a b) : Q b H := h b H al (Step.refl hn) rs r
theorem Runs.of_bind {o : Option γ} {S : Store} {g : γ → Store → R α} {Q : β → Hp → Prop} (h : Runs L n H al Rp ((R.of o S).bind g) Q E) : ∃ a, o = some a ∧ Runs L n H al Rp (g a S) Q E := by
  cases o with
  | none => exact h.elim
  | some a => exact ⟨a, rfl, h⟩
theorem Runs.of_of {o : Option γ} {S : Store} (h : Runs L n H al Rq (R.of o S) Q E) : ∃ a, o = some a ∧ Runs L n H al Rq (.ok a S) Q E := by
  cases o with
  | none => exact h.elim
  | some a => exact ⟨a, rfl, h⟩
/-- exceptions shut out -/
theorem Runs.noex {k : R γ} (h : Runs L n H al Rq k.noex Q E) (E' : XK) : Runs L n H al Rq k Q E' := by
  cases k with
  | ok a S => exact h
  | ex c vs S => exact h.elim
  | bad => exact h
end

/-! ### PE, PT, .. with a stronger reading -/
theorem PE.imp {X : Cx} {e : Expr} {t t' : TE} (h : PE X e t) (k : ∀ σ H Q, t' σ H Q → t σ H Q) : PE X e t' := ⟨fun pins s σ H Q I hw => h.run pins s σ H Q I (k σ H Q hw)⟩
theorem PT.imp {X : Cx} {e : Expr} {t t' : TT} (h : PT X e t) (k : ∀ σ H Q, t' σ H Q → t σ H Q) : PT X e t' := ⟨fun pins s σ H Q I hw => h.run pins s σ H Q I (k σ H Q hw)⟩
theorem PW.imp {X : Cx} {e : Expr} {t t' : TT} (h : PW X e t) (k : ∀ σ H Q, t' σ H Q → t σ H Q) : PW X e t' := ⟨fun wh pins s σ H Q I hw => h.run wh pins s σ H Q I (k σ H Q hw)⟩
theorem PA.imp {X : Cx} {e : List Expr} {t t' : TA} (h : PA X e t) (k : ∀ σ H Q, t' σ H Q → t σ H Q) : PA X e t' := ⟨fun pos pins s σ H Q I hw => h.run pos pins s σ H Q I (k σ H Q hw)⟩
theorem PK.imp {X : Cx} {e : List Keyword} {t t' : TA} (h : PK X e t) (k : ∀ σ H Q, t' σ H Q → t σ H Q) : PK X e t' := ⟨fun pos pins s σ H Q I hw => h.run pos pins s σ H Q I (k σ H Q hw)⟩
theorem PS.imp {X : Cx} {e : Stmt} {t t' : TS} (h : PS X e t) (k : ∀ D σ H, t' D σ H → t D σ H) : PS X e t' := ⟨fun pins s σ H D I hw => h.run pins s σ H D I (k D σ H hw)⟩
theorem PSs.imp {X : Cx} {e : List Stmt} {t t' : TS} (h : PSs X e t) (k : ∀ D σ H, t' D σ H → t D σ H) : PSs X e t' := ⟨fun pins s σ H D I hw => h.run pins s σ H D I (k D σ H hw)⟩
theorem PG.imp {X : Cx} {e : Expr} {t t' : TG} (h : PG X e t) (k : ∀ v σ H Q, t' v σ H Q → t v σ H Q) : PG X e t' := ⟨fun pins s σ H v u Q I r hw => h.run pins s σ H v u Q I r (k v σ H Q hw)⟩
theorem PGs.imp {X : Cx} {e : List Expr} {t t' : TGs} (h : PGs X e t) (k : ∀ v σ H Q, t' v σ H Q → t v σ H Q) : PGs X e t' := ⟨fun pins s σ H v u Q I r hw => h.run pins s σ H v u Q I r (k v σ H Q hw)⟩
theorem PI.imp {X : Cx} {tg e : Expr} {t t' : TI} (h : PI X tg e t) (k : ∀ σ H Q, t' σ H Q → t σ H Q) : PI X tg e t' := ⟨fun pins s σ H Q I hw => h.run pins s σ H Q I (k σ H Q hw)⟩

/-! ### defs, with no object being written around them -/
/-- a def's promise, where nothing is being written out around the call -/
structure FnG (P : Program) (w : World) (K : PySem.W.Frag) (mg : Str → Option Value) (base : Heap) (k : Nat) (f : Addr) (fd : FuncData) (ps : List Str) (sp : Sp) : Prop where
  run : ∀ (A : Around) (outer : List PySem.Env) (s : Shared) (H : Hp) (args : Args) (us : List Value) (vs : List V) (Q : VK) (E : XK), Room k A → A.guards = some [] → Env0 P w K mg base A outer s H → us.length = ps.length →
    BindsTo s fd args (ps.zip us) → Vals vs us → sp vs H Q E → codeAny (model P w) A (.call (.ref f) args) (CR (L2.CX P w) outer P w H s Q E) s
section
variable {P : Program} {w : World} {K : PySem.W.Frag} {mg : Str → Option Value} {base : Heap} {k : Nat} {f : Addr} {fd : FuncData} {ps : List Str} {sp : Sp}
/-- THE DEF: its body's reading at each entry -/
theorem fnG_of {name qual : Str} {params : Arguments} {body : List Stmt} {scope : Scope} {dvs : List V} {kws : List (Str × V)} {N : List Str} (F : FunD K name qual params body scope dvs kws f fd) (S : FnScope N ps scope)
    (hbody : ∀ (cdv : Value) (A : Around) (outer : List PySem.Env) (s : Shared) (H : Hp) (vs : List V) (Q : VK) (E : XK), Room k (A.deeper (envOfC qual scope s.heap.objs.size f cdv)) → (A.deeper (envOfC qual scope s.heap.objs.size f cdv)).guards = some [] → vs.length = ps.length → sp vs H Q E →
      ∃ t, PSs (cxOf (L2.CX P w) P w K mg base N qual scope f cdv A outer s H E) body t ∧ t { nx := fun _ H' => Q .non H', rt := Q } (L2.start N vs) H) : FnG P w K mg base (k + 1) f fd ps sp := by
  obtain ⟨oc, od, dV, kV, doc, pm, an, cdv, ct, osl, hfd, hlk, hcode, -, -⟩ := F.ex
  subst hfd
  constructor
  intro A outer s H args us vs Q E room gd env0 hus bnd rel hsp
  have hvs : vs.length = ps.length := rel.length.trans hus
  have kin : K.In s.heap := env0.mod.kin.keeps fun b o e => (env0.bs b o e).1
  have nolim : s.heap.NoLimit := env0.mod.nolimit.keeps fun b o e => (env0.bs b o e).1
  refine codeAny_call_function room.depth (kin _ _ hlk) rfl S.co S.gen rfl (PySem.W.codeRec_of kin hcode) (bnd _ _ _ _ ?_)
  have kinds : ∀ p ∈ ps.zip us, scope.names.lookup p.1 = some .local ∨ (scope.names.lookup p.1 = some .cell ∧ ((cellsFrom (s.heap.objs.size + 1) scope.names []).lookup p.1).isSome = true) := by
    rintro ⟨nm, v⟩ hp
    exact (S.par nm (List.of_mem_zip hp).1).imp id fun z => ⟨z, PySem.W.cellsFrom_some _ _ _ (.inl z)⟩
  refine wpAny_newFunctionEnv_cells S.kind kinds ?_
  rintro env rfl s1 inCall
  refine ⟨nolim.keeps inCall.toInCall.keep, codeAny_func ?_⟩
  obtain ⟨t, pt, hq⟩ := hbody cdv A outer s H vs Q E (room.deeper _) gd hvs hsp
  have inv := inv_start (CX := L2.CX P w) (E := E) S room.hd env0 hvs rel inCall
  refine wpAny_mono (pt.run [] s1 _ H _ inv hq) ?_ fun _ _ z => z
  intro fl s2 h2
  cases fl with
  | ret u =>
    obtain ⟨v, _, H2, J, rv, q⟩ := h2
    exact ⟨v, H2, J.os, J.bare, J.base, J.hok, rv, q⟩
  | next =>
    obtain ⟨_, H2, J, q⟩ := h2
    exact ⟨.non, H2, J.os, J.bare, J.base, J.hok, rfl, q⟩
  | brk => exact h2.elim fun _ z => z.elim fun _ y => y.2.elim
  | cont => exact h2.elim fun _ z => z.elim fun _ y => y.2.elim
end

/-! ### its call from a body -/
/-- what is wanted of exceptions at the names' state σ -/
abbrev AtX (W : WX) (σ : L2.St) : XK := fun cls d H => W cls d σ H
section
variable {X : Cx} {W : WX} {k : Nat} {f C : Addr} {fd : FuncData} {ps : List Str} {sp : Sp} {pins : List (Addr × Obj)} {σ : L2.St} {H : Hp} {s : Shared} {Q : VK} {us : List Value} {vs : List V} {args : Args}
theorem back_to (tk : Takes X W) (I : Inv X pins σ H s) {r : Result} {s' : Shared} {Q' : Value → Shared → Prop} (hQ : ∀ u, EP X pins σ Q u s' → Q' u s') (h : CR (L2.CX X.prog X.w) X.stack X.prog X.w H s Q (AtX W σ) r s') :
    (match (generalizing := false) r with | .ok (.ret v) => Q' v s' | .ok _ => False | .error e => X.xe e s') := by
  cases r with
  | error e => exact passAt tk σ pins H s e s' I h
  | ok fl =>
    cases fl with
    | ret u => exact hQ u (I.after h)
    | next => exact h.elim
    | brk => exact h.elim
    | cont => exact h.elim
theorem run_g (F : FnG X.prog X.w X.K X.mg X.base k f fd ps sp) (hr : Room k X.A) (gd : X.A.guards = some []) (tk : Takes X W) (I : Inv X pins σ H s) {pos : List Value} {kw : List (Str × Value)} (hb : BindsTo s fd ⟨pos, kw⟩ (ps.zip us)) (hl : us.length = ps.length)
    (r : Vals vs us) (h : sp vs H Q (AtX W σ)) : wpAny (model X.prog X.w) X.A (call (.ref f) pos kw) (EP X pins σ Q) X.xe s :=
  wpAny_call (codeAny_mono (F.run X.A X.stack s H ⟨pos, kw⟩ us vs Q (AtX W σ) hr gd I.env0 hl hb r h) fun r s' hq => by
    have := back_to (Q' := EP X pins σ Q) tk I (fun _ z => z) hq
    cases r with
    | error e => exact this
    | ok fl => cases fl <;> exact this)
theorem guards_make {A : Around} {us : List Value} {kw : List (Str × Value)} (gd : A.guards = some []) : (A.under (.builtin "type.__call__" ⟨.ref C :: us, kw⟩)).guards = some [] := by
  show pushGuards (Code.guards (Code.builtin "type.__call__" ⟨.ref C :: us, kw⟩)) A.guards = _
  rw [gd]
  have e : (Code.builtin "type.__call__" ⟨.ref C :: us, kw⟩).isGuard = false := by
    show guardIds.contains "type.__call__" = false
    decide +kernel
  rw [Code.guards, e]
  rfl
theorem run_mk (M : Mk X.K C f) (F : FnG X.prog X.w X.K X.mg X.base k f fd ps sp) (hr : Room (k + 1) X.A) (gd : X.A.guards = some []) (tk : Takes X W) (I : Inv X pins σ H s) {pos : List Value} {kw : List (Str × Value)}
    (h : ∀ x dx, H x = none → H dx = none → dx ≠ x → ∃ (us : List Value) (vs : List V), us.length = ps.length ∧ (∀ s' : Shared, X.K.In s'.heap → BindsTo s' fd ⟨.ref x :: pos, kw⟩ (ps.zip us)) ∧ Vals vs us ∧
      sp vs (upd (upd H dx (.own x)) x (.ins C dx [])) (fun v H2 => v = .non ∧ Q (.ref x) H2) (AtX W σ)) :
    wpAny (model X.prog X.w) X.A (call (.ref C) pos kw) (EP X pins σ Q) X.xe s := by
  obtain ⟨us, vs, hl, hb, r, hsp⟩ := h (s.heap.objs.size + 1) s.heap.objs.size (I.hok.fresh (Nat.le_succ _)) (I.hok.fresh (Nat.le_refl _)) (Nat.ne_of_lt (Nat.lt_succ_self _))
  have I2 := Inv.made (C := C) I
  refine wpAny_call (make_map (f := f) I.kIn M.makes M.init (beq_iff_eq.mp M.fn) (codeAny_mono (F.run _ X.stack _ _ _ us vs _ (AtX W σ) (hr.make C pos kw) (guards_make gd) (I2.env0.make C pos kw) hl (hb _ I2.kIn) r hsp) ?_))
  intro r s' hq
  cases r with
  | error e => exact passAt tk σ pins _ _ e s' I2 hq
  | ok fl =>
    cases fl with
    | ret u =>
      obtain ⟨v, H', I3, rv, ev, q3⟩ := I2.after hq
      subst ev
      exact ⟨rv, ⟨V.ref (s.heap.objs.size + 1), H', I3, rfl, q3⟩⟩
    | next => exact hq.elim
    | brk => exact hq.elim
    | cont => exact hq.elim
end
end Ev
end
section
/-! EvD2: the text's tables, what the heap behind the top must hold of them, the frame of a body. Own work. -/
set_option linter.all false
set_option autoImplicit false
set_option maxRecDepth 100000
set_option maxHeartbeats 1000000
namespace Ev
open PySem PySem.Spec PyProof.Rows L2

/-! ### where a def stands -/
inductive Pth where
  | glo (x : Str)
  | meth (x m : Str)
  | getter (x f : Str)
def pAd (K : PySem.W.Frag) : Pth → Addr
  | .glo x => He.ga K x
  | .meth x m => He.ma K (He.ga K x) m
  | .getter x f => match PySem.W.recIn K (He.ma K (He.ga K x) f) "property" with
    | some (.ref g :: _) => g
    | _ => 0
/-- a def of the text: where it stands, its row's parts, its defaults -/
structure Df where
  at_ : Pth
  name : Str
  qual : Str
  params : Arguments
  body : List Stmt
  scope : Scope
  dfl : List He.Dv
def Df.val (d : Df) : He.FnW := some (d.name, d.qual, d.params, .stmts d.body, d.scope, mainGlobals, [], builtinsNs)
def fnX (K : PySem.W.Frag) (p : Pth) : He.FnW := match K.lookup (pAd K p) with
  | some ⟨_, _, .func fd, _⟩ => some (fd.name, fd.qualname, fd.params, fd.body, fd.scope, fd.globals, fd.closure, fd.builtins)
  | _ => none
def Df.dvs (K : PySem.W.Frag) (d : Df) : List V := d.dfl.map (He.Dv.v K)
def Df.ok (K : PySem.W.Frag) (d : Df) : Bool := PySem.W.keepIn K (.ref (pAd K d.at_)) && (match K.lookup (pAd K d.at_) with
  | some ⟨_, _, .func fd, _⟩ => PySem.W.codeIn K fd.code d.qual && He.dflB K fd.defaults (d.dvs K)
  | _ => false)
abbrev IsDf (K : PySem.W.Frag) (d : Df) (fd : FuncData) : Prop := FunD K d.name d.qual d.params d.body d.scope (d.dvs K) [] (pAd K d.at_) fd
theorem Df.fun_ {K : PySem.W.Frag} {d : Df} (e : fnX K d.at_ = d.val) (c : d.ok K = true) : ∃ fd, IsDf K d fd := by
  simp only [Df.ok, Bool.and_eq_true] at c
  obtain ⟨kp, c2⟩ := c
  cases q : K.lookup (pAd K d.at_) with
  | none => rw [q] at c2; cases c2
  | some o =>
    obtain ⟨oc, od, dt, osl⟩ := o
    cases dt with
    | func fd =>
      simp only [q, Bool.and_eq_true] at c2
      simp only [fnX, q] at e
      obtain ⟨a1, a2, a3, a4, a5, a6, a7, a8, a9, a10, a11, a12, a13, a14, a15⟩ := fd
      simp only [Df.val, Option.some.injEq, Prod.mk.injEq] at e
      obtain ⟨rfl, rfl, rfl, rfl, rfl, rfl, rfl, rfl⟩ := e
      exact ⟨_, ⟨⟨oc, od, a8, a9, a10, a11, a12, a13, a14, osl, rfl, q, c2.1, He.dflB_ok c2.2, .inl rfl⟩, kp⟩⟩
    | _ => rw [q] at c2; cases c2

/-! ### the tables -/
structure Txt where
  T : Tab
  defs : List Df
  N : List (List Str)
  gn : List Str
  cn : List Str
  an : List Str
  fre : List Str
def Txt.lay (Y : Txt) (K : PySem.W.Frag) (w : World) : Lay := ⟨K, w, fun c => He.ga K (Y.cn.getD c ""), fun j => Y.an.getD j "", fun c => match Y.T.cls[c]? with
  | some k => k.flds
  | none => []⟩
/-! ### what the heap behind the top must hold -/
def gloB (K : PySem.W.Frag) (x : Str) : Bool := He.eqO (PySem.W.nsIn K mainGlobals x) (some (some (.ref (He.ga K x))))
def freB (K : PySem.W.Frag) (x : Str) : Bool := He.eqO (PySem.W.nsIn K mainGlobals x) (some none)
def conG (K : PySem.W.Frag) (x : Str) (d : D) : Bool := match PySem.W.nsIn K mainGlobals x with
  | some (some u) => (match d, u with
    | .dic ks vs, .ref a => (match K.lookup a with
      | some ⟨_, _, .dict es _, _⟩ => dicB K ks vs es.toList
      | _ => false)
    | d, u => conB K d u)
  | _ => false
def txKeys : List D → List Str
  | .str k :: r => tx k :: txKeys r
  | _ => []
/-- the module's dicts, by their texts -/
def Txt.dics (Y : Txt) : List (Str × List Str) := (Y.gn.zip Y.T.glob).filterMap fun q => match q.2 with
  | .dic ks _ => some (q.1, txKeys ks)
  | _ => none
def propB (K : PySem.W.Frag) (C : Addr) (f : Str) (p g : Addr) : Bool :=
  decide (PySem.W.findIn K (.ref C) f = some (some (.ref p))) && decide (PySem.W.specialIn K (.ref p) "__get__" = some (some (.builtin "property.__get__"))) && decide (PySem.W.takesIn K (.ref p) = some true) &&
    (match PySem.W.recIn K p "property" with
    | some (.ref b :: _) => decide (b = g)
    | _ => false)
theorem propB_ok {K : PySem.W.Frag} {C : Addr} {f : Str} {p g : Addr} (h : propB K C f p g = true) : PropOf K C f p g := by
  simp only [propB, Bool.and_eq_true, decide_eq_true_eq] at h
  obtain ⟨⟨⟨h1, h2⟩, h3⟩, h4⟩ := h
  refine ⟨h1, h2, h3, ?_⟩
  split at h4
  · rename_i b r e
    exact ⟨r, by rw [e, of_decide_eq_true h4]⟩
  · cases h4
def methB (K : PySem.W.Frag) (C : Addr) (m : Str) (g : Addr) : Bool := decide (PySem.W.findIn K (.ref C) m = some (some (.ref g))) && PySem.W.isFn K (.ref g) && PySem.W.keepIn K (.ref g)
theorem methB_ok {K : PySem.W.Frag} {C : Addr} {m : Str} {g : Addr} (h : methB K C m g = true) : Meth K C m g := by
  simp only [methB, Bool.and_eq_true, decide_eq_true_eq] at h
  exact ⟨h.1.1, h.1.2, h.2⟩
def mkB (K : PySem.W.Frag) (C g : Addr) : Bool := PySem.W.makesIn K C && decide (PySem.W.findIn K (.ref C) "__init__" = some (some (.ref g))) && PySem.W.isFn K (.ref g) && PySem.W.keepIn K (.ref C)
theorem mkB_ok {K : PySem.W.Frag} {C g : Addr} (h : mkB K C g = true) : Mk K C g := by
  simp only [mkB, Bool.and_eq_true, decide_eq_true_eq] at h
  exact ⟨h.1.1.1, h.1.1.2, h.1.2, h.2⟩
def clsB (K : PySem.W.Frag) (C : Addr) : Bool := PySem.W.plainGet K C Str.empty && PySem.W.hasDictIn K C && PySem.W.plainOver K C && decide (PySem.W.findIn K (.ref C) "__setattr__" = some (some (.builtin "object.__setattr__")))
theorem clsB_ok {K : PySem.W.Frag} {C : Addr} (h : clsB K C = true) : Cls K C := by
  simp only [clsB, Bool.and_eq_true, decide_eq_true_eq] at h
  exact ⟨h.1.1.1, h.1.1.2, h.1.2, h.2⟩
/-- the def g's place -/
def Txt.ad (Y : Txt) (K : PySem.W.Frag) (g : Nat) : Addr := match Y.defs[g]? with
  | some d => pAd K d.at_
  | none => 0
theorem Txt.ad_of {Y : Txt} {K : PySem.W.Frag} {g : Nat} {d : Df} (h : Y.defs[g]? = some d) : Y.ad K g = pAd K d.at_ := by
  unfold Txt.ad
  rw [h]
def noatB (K : PySem.W.Frag) (C : Addr) (f : Str) : Bool := decide (PySem.W.findIn K (.ref C) f = some none)
theorem noatB_ok {K : PySem.W.Frag} {C : Addr} {f : Str} (h : noatB K C f = true) : NoAttr K C f := by
  simp only [noatB, decide_eq_true_eq] at h
  exact h
/-- the class's own ==, repr and str -/
def eqB (Y : Txt) (K : PySem.W.Frag) (C g : Addr) : Bool := methB K C "__eq__" g && decide (PySem.W.findIn K (.ref C) "__ne__" = some (some (.builtin "object.__ne__"))) && decide (PySem.W.mroIn K C (.type "object") = some true) &&
  (["NoneType", "bool", "int", "str", "tuple", "list", "dict"].all fun a => PySem.W.notFirst K C (.type a)) && (Y.cn.all fun y => PySem.W.notFirst K C (.ref (He.ga K y)))
def ownB (Y : Txt) (K : PySem.W.Frag) (C : Addr) (k : Cl) : Bool := (match k.eqf with
    | some g => eqB Y K C (Y.ad K g)
    | none => true) && (match k.reprf with
    | some g => methB K C "__repr__" (Y.ad K g)
    | none => true) && (match k.strf with
    | some g => methB K C "__str__" (Y.ad K g)
    | none => true)
/-- what is known of an own == -/
structure EqF (Y : Txt) (K : PySem.W.Frag) (C g : Addr) : Prop where
  m : Meth K C "__eq__" g
  ne : PySem.W.findIn K (.ref C) "__ne__" = some (some (.builtin "object.__ne__"))
  ob : PySem.W.mroIn K C (.type "object") = some true
  tys : ∀ a ∈ ["NoneType", "bool", "int", "str", "tuple", "list", "dict"], PySem.W.notFirst K C (.type a) = true
  own : ∀ y ∈ Y.cn, PySem.W.notFirst K C (.ref (He.ga K y)) = true
theorem eqB_ok {Y : Txt} {K : PySem.W.Frag} {C g : Addr} (h : eqB Y K C g = true) : EqF Y K C g := by
  simp only [eqB, Bool.and_eq_true, decide_eq_true_eq, List.all_eq_true] at h
  obtain ⟨⟨⟨⟨h1, h2⟩, h3⟩, h4⟩, h5⟩ := h
  exact ⟨methB_ok h1, h2, h3, h4, h5⟩
/-- a class of the text -/
def Txt.clsB (Y : Txt) (K : PySem.W.Frag) (x : Str) (k : Cl) : Bool := gloB K x && Ev.clsB K (He.ga K x) && mkB K (He.ga K x) (Y.ad K k.init) && (k.flds.all fun j => noatB K (He.ga K x) (Y.an.getD j "")) &&
  (k.ms.all fun q => methB K (He.ga K x) (Y.an.getD q.1 "") (Y.ad K q.2)) &&
  (k.ats.all fun q => match q.2 with
    | .prop g => propB K (He.ga K x) (Y.an.getD q.1 "") (He.ma K (He.ga K x) (Y.an.getD q.1 "")) (Y.ad K g)
    | .fld _ => noatB K (He.ga K x) (Y.an.getD q.1 "")) && ownB Y K (He.ga K x) k
def Txt.factB (Y : Txt) (K : PySem.W.Frag) : Bool := (Y.defs.all fun d => d.ok K && match d.at_ with
    | .glo x => gloB K x
    | _ => true) && (Y.fre.all fun x => freB K x) && ((Y.gn.zip Y.T.glob).all fun q => conG K q.1 q.2) && ((Y.cn.zip Y.T.cls).all fun q => Y.clsB K q.1 q.2)
/-- isinstance, as the text's classes have it -/
def Txt.isiB (Y : Txt) (K : PySem.W.Frag) : Bool := decide (Y.cn.length = Y.T.cls.length) && (Y.cn.zip Y.T.cls).all fun q => (["NoneType", "bool", "int", "str", "tuple", "list", "dict"].all fun a => decide (PySem.W.kitOne K (.type a) (.ref (He.ga K q.1)) = some false)) &&
  (["bool", "int", "str", "tuple", "list", "dict"].all fun b => decide (PySem.W.kitOne K (.ref (He.ga K q.1)) (.type b) = some false)) &&
  (Y.cn.zipIdx.all fun r => decide (PySem.W.kitOne K (.ref (He.ga K q.1)) (.ref (He.ga K r.1)) = some (q.2.sup.contains r.2))) &&
  decide (PySem.W.findIn K (.ref (He.ga K q.1)) "__class__" = some (some (.builtin "object.__class__"))) && decide (PySem.W.specialIn K (.builtin "object.__class__") "__get__" = some (some (.builtin "getset_descriptor.__get__"))) &&
  decide (PySem.W.takesIn K (.builtin "object.__class__") = some true) && decide (PySem.W.mroIn K (He.ga K q.1) (.type "object") = some true)
/-- the text stands in the heap -/
structure Lnk (Y : Txt) (K : PySem.W.Frag) (w : World) (mg : Str → Option Value) : Prop where
  fact : Y.factB K = true
  isi : Y.isiB K = true
  fns : Y.defs.map (fun d => fnX K d.at_) = Y.defs.map Df.val
  ns : ∀ x o, PySem.W.nsIn K mainGlobals x = some o → mg x = o
  dics : Y.dics.map (fun q => He.dicW K (He.ga K q.1)) = Y.dics.map fun q => some (He.keysIn w.params q.2)
section
variable {Y : Txt} {K : PySem.W.Frag} {w : World} {mg : Str → Option Value}
theorem Lnk.parts (h : Lnk Y K w mg) : (∀ d ∈ Y.defs, d.ok K = true ∧ (match d.at_ with | .glo x => gloB K x | _ => true) = true) ∧ (∀ x ∈ Y.fre, freB K x = true) ∧ (∀ q ∈ Y.gn.zip Y.T.glob, conG K q.1 q.2 = true) ∧ (∀ q ∈ Y.cn.zip Y.T.cls, Y.clsB K q.1 q.2 = true) := by
  have f := h.fact
  simp only [Txt.factB, Bool.and_eq_true, List.all_eq_true] at f
  exact ⟨f.1.1.1, f.1.1.2, f.1.2, f.2⟩
theorem Lnk.def_ (h : Lnk Y K w mg) {g : Nat} {d : Df} (e : Y.defs[g]? = some d) : ∃ fd, IsDf K d fd := by
  have e2 : (Y.defs.map fun d => fnX K d.at_)[g]? = (Y.defs.map Df.val)[g]? := by rw [h.fns]
  rw [List.getElem?_map, List.getElem?_map, e] at e2
  exact Df.fun_ (Option.some.inj e2) (h.parts.1 d (List.mem_of_getElem? e)).1
theorem Lnk.glo (h : Lnk Y K w mg) {x : Str} (e : gloB K x = true) : mg x = some (.ref (He.ga K x)) := h.ns _ _ (He.eqO_ok e)
theorem Lnk.fnGlo (h : Lnk Y K w mg) {g : Nat} {d : Df} {x : Str} (e : Y.defs[g]? = some d) (ea : d.at_ = .glo x) : mg x = some (.ref (pAd K d.at_)) := by
  have := (h.parts.1 d (List.mem_of_getElem? e)).2
  rw [ea] at this ⊢
  exact h.glo this
theorem Lnk.free (h : Lnk Y K w mg) {x : Str} (m : x ∈ Y.fre) : mg x = none := h.ns _ _ (He.eqO_ok (h.parts.2.1 x m))
theorem Lnk.con (h : Lnk Y K w mg) {i : Nat} {d : D} {x : Str} (e : Y.T.glob[i]? = some d) (ex : Y.gn[i]? = some x) : ∃ u v, mg x = some u ∧ RelV v u ∧ ∀ H al, RepD (Y.lay K w) H al d v := by
  have m : (x, d) ∈ Y.gn.zip Y.T.glob := by
    refine List.mem_of_getElem? (i := i) ?_
    rw [List.getElem?_zip_eq_some]
    exact ⟨ex, e⟩
  have c := h.parts.2.2.1 _ m
  unfold conG at c
  cases eu : PySem.W.nsIn K mainGlobals x with
  | none => rw [eu] at c; cases c
  | some o =>
    cases o with
    | none => rw [eu] at c; cases c
    | some u =>
      rw [eu] at c
      simp only at c
      split at c
      · rename_i ks vs a
        split at c
        · rename_i oc od es n sl q
          have ga : He.ga K x = a := by unfold He.ga; rw [eu]
          have md : (x, txKeys ks) ∈ Y.dics := List.mem_filterMap.mpr ⟨_, m, rfl⟩
          obtain ⟨k, hk, e2⟩ := List.mem_iff_getElem.mp md
          have e3 : (Y.dics.map fun q => He.dicW K (He.ga K q.1))[k]? = (Y.dics.map fun q => some (He.keysIn w.params q.2))[k]? := by rw [h.dics]
          rw [List.getElem?_map, List.getElem?_map, List.getElem?_eq_getElem hk, e2] at e3
          obtain ⟨es', n', D⟩ := He.dicW_ok (Option.some.inj e3)
          simp only [ga] at D
          have at_ := D.at_
          rw [q] at at_
          cases at_
          exact ⟨.ref a, .ref a, h.ns _ _ eu, rfl, fun H al => by simp only [RepD]; exact ⟨a, rfl, .inl ⟨_, _, D, c⟩⟩⟩
        · cases c
      · obtain ⟨v, hv⟩ := conB_abs c
        exact ⟨u, v, h.ns _ _ eu, (conB_ok (L := Y.lay K w) (H := fun _ => none) (al := []) c v hv).1, fun H al => (conB_ok (L := Y.lay K w) c v hv).2⟩
/-- what is known of a class -/
structure ClsF (Y : Txt) (K : PySem.W.Frag) (mg : Str → Option Value) (C : Addr) (x : Str) (k : Cl) : Prop where
  glo : mg x = some (.ref C)
  cls : Cls K C
  make : Mk K C (Y.ad K k.init)
  flds : ∀ j ∈ k.flds, NoAttr K C (Y.an.getD j "")
  ms : ∀ m g, k.ms.lookup m = some g → Meth K C (Y.an.getD m "") (Y.ad K g)
  prop : ∀ f g, k.ats.lookup f = some (.prop g) → ∃ p, PropOf K C (Y.an.getD f "") p (Y.ad K g)
  fld : ∀ f j, k.ats.lookup f = some (.fld j) → NoAttr K C (Y.an.getD f "")
  eq : ∀ g, k.eqf = some g → EqF Y K C (Y.ad K g)
  rp : ∀ g, k.reprf = some g → Meth K C "__repr__" (Y.ad K g)
  sr : ∀ g, k.strf = some g → Meth K C "__str__" (Y.ad K g)
theorem lookup_mem {α β : Type} [BEq α] [LawfulBEq α] {l : List (α × β)} {a : α} {b : β} (h : l.lookup a = some b) : (a, b) ∈ l := by
  induction l with
  | nil => cases h
  | cons q l ih =>
    obtain ⟨a', b'⟩ := q
    rw [List.lookup_cons] at h
    split at h
    · rename_i e
      rw [eq_of_beq e]
      cases h
      exact List.mem_cons_self
    · exact List.mem_cons_of_mem _ (ih h)
theorem Lnk.cls (h : Lnk Y K w mg) {c : Nat} {k : Cl} (e : Y.T.cls[c]? = some k) {x : Str} (ex : Y.cn[c]? = some x) : ClsF Y K mg ((Y.lay K w).cls c) x k := by
  have m : (x, k) ∈ Y.cn.zip Y.T.cls := by
    refine List.mem_of_getElem? (i := c) ?_
    rw [List.getElem?_zip_eq_some]
    exact ⟨ex, e⟩
  have q := h.parts.2.2.2 _ m
  simp only [Txt.clsB, Bool.and_eq_true, List.all_eq_true, decide_eq_true_eq] at q
  obtain ⟨⟨⟨⟨⟨⟨h1, h2⟩, h3⟩, h4⟩, h5⟩, h6⟩, h7⟩ := q
  have eC : (Y.lay K w).cls c = He.ga K x := by
    show He.ga K (Y.cn.getD c "") = _
    rw [List.getD_eq_getElem?_getD, ex]; rfl
  rw [eC]
  refine ⟨h.glo h1, clsB_ok h2, mkB_ok h3, fun j hj => noatB_ok (h4 j hj), fun mm g l => methB_ok (h5 _ (lookup_mem l)), fun f g l => ⟨_, propB_ok (h6 _ (lookup_mem l))⟩, fun f j l => ?_, fun g e => ?_, fun g e => ?_, fun g e => ?_⟩
  · have := h6 _ (lookup_mem l)
    exact noatB_ok this
  · have o := h7
    simp only [ownB, Bool.and_eq_true, e] at o
    exact eqB_ok o.1.1
  · have o := h7
    simp only [ownB, Bool.and_eq_true, e] at o
    exact methB_ok o.1.2
  · have o := h7
    simp only [ownB, Bool.and_eq_true, e] at o
    exact methB_ok o.2
end

/-! ### a body's frame -/
/-- a def's parameters' names -/
def Df.ps (d : Df) : List Str := d.params.args.map (·.arg)
/-- the promise of the def g, so many calls deep -/
def spG (Y : Txt) (K : PySem.W.Frag) (w : World) (n g : Nat) : Sp := fun vs H Q E => ∃ ws S al, RelS (Y.lay K w) H S al ∧ RepWs (Y.lay K w) H al ws vs ∧ Runs (Y.lay K w) al.length H al (RepW (Y.lay K w)) (callD Y.T n g ws S) Q E
/-- a scope, its cells that may be stored to -/
structure Sco where
  N : List Str
  sc : Scope
  st : Str → Bool
/-- what the tables must keep: the attributes' names are apart, fields stand where they are said to stand -/
def Txt.stat (Y : Txt) : Bool := decide (Y.an.Nodup) && !(Y.an.contains ("" : Str)) && decide (Y.cn.length = Y.T.cls.length) && decide (Y.gn.length = Y.T.glob.length) && Y.T.cls.all fun k => (k.flds.all fun f => decide (f < Y.an.length)) && decide (k.flds.Nodup) &&
  (k.ats.all fun q => decide (q.1 < Y.an.length) && match q.2 with
    | .fld j => k.flds[j]? == some q.1
    | _ => true) && (k.ms.all fun q => decide (q.1 < Y.an.length) && !k.flds.contains q.1 && decide (q.2 < Y.defs.length))
/-- a plain call of the def by so many values -/
def srcNeed (d : Df) (m : Nat) : Bool := bindOk d.ps [] m d.dfl.length && m == d.ps.length
def dflA : D → He.Dv → Bool
  | .non, .non => true
  | .bl b, .bl c => b == c
  | .int i, .int j => i == j
  | .str s, .str x => decide (x = tx s) && decide (s.length ≤ lim)
  | _, _ => false
def dflAs : List D → List He.Dv → Bool
  | [], [] => true
  | d :: ds, v :: vs => dflA d v && dflAs ds vs
  | _, _ => false
/-- an own def of so many values -/
def needO (Y : Txt) (m : Nat) : Option Nat → Bool
  | some g => (match Y.defs[g]? with
    | some d => srcNeed d m
    | none => true)
  | none => true
/-- the defs' heads as the tables have them -/
def Txt.sig (Y : Txt) : Bool := decide (Y.T.fns.length = Y.defs.length) && ((Y.defs.zip Y.T.fns).all fun q => simpleP q.1.params && dflAs q.2.dfl q.1.dfl && q.2.np == q.1.ps.length) &&
  Y.T.cls.all fun k => (k.ats.all fun q => match q.2 with
    | .prop g => (match Y.defs[g]? with
      | some d => srcNeed d 1
      | none => true)
    | _ => true) && needO Y 2 k.eqf && needO Y 1 k.reprf && needO Y 1 k.strf
structure Good (Y : Txt) (X : Cx) (n : Nat) (c : Sco) (W : WX) : Prop where
  calm : X.calm = true
  nd : X.N.Nodup
  names : X.N = c.N
  room : Room (4 * n + 3) X.A
  gd : X.A.guards = some []
  lnk : Lnk Y X.K X.w X.mg
  fns : ∀ g d, Y.defs[g]? = some d → ∀ fd, IsDf X.K d fd → FnG X.prog X.w X.K X.mg X.base (4 * n) (pAd X.K d.at_) fd d.ps (spG Y X.K X.w n g)
  tk : Takes X W
  sc : X.env.scope = c.sc
  kind : c.sc.kind = .function
  st : ∀ x, c.st x = true → X.fn x = true
  stat : Y.stat = true
  sig : Y.sig = true
end Ev
end
section
/-! EvD3: expressions: names, operators, tests. Own work. -/
set_option linter.all false
set_option autoImplicit false
set_option maxRecDepth 100000
set_option maxHeartbeats 1000000
namespace Ev
open PySem PySem.Spec PyProof.Rows L2

section
variable (Y : Txt) (X : Cx) (n : Nat) (Z : WX)
def tE (e : Ex) : TE := fun σ H Q => ∃ env S al, RelE (Y.lay X.K X.w) H al env σ ∧ RelS (Y.lay X.K X.w) H S al ∧ Runs (Y.lay X.K X.w) al.length H al (RepW (Y.lay X.K X.w)) (evE Y.T (callD Y.T n) e env S) Q (AtX Z σ)
def tT (e : Ex) : TT := fun σ H Q => ∃ env S al, RelE (Y.lay X.K X.w) H al env σ ∧ RelS (Y.lay X.K X.w) H S al ∧ Runs (Y.lay X.K X.w) al.length H al (fun _ _ a b => a = b) (evT Y.T (callD Y.T n) e (evE Y.T (callD Y.T n) e) env S) Q (AtX Z σ)
def tEs (es : Exs) : TA := fun σ H Q => ∃ env S al, RelE (Y.lay X.K X.w) H al env σ ∧ RelS (Y.lay X.K X.w) H S al ∧ Runs (Y.lay X.K X.w) al.length H al (RepWs (Y.lay X.K X.w)) (evEs Y.T (callD Y.T n) es env S) Q (AtX Z σ)
end
/-- a name that is seen -/
def visB (sc : Scope) (x : Str) : Bool := (match sc.names.lookup x with
  | some .local => true
  | some .cell => true
  | some .free => true
  | _ => false) && !(x == ("__debug__" : Str)) && !(x == ("__classdict__" : Str))
/-- a global name -/
def glB (sc : Scope) (x : Str) : Bool := (match sc.names.lookup x with
  | some .globalImplicit => true
  | _ => false) && !(x == ("__debug__" : Str)) && !(x == ("__name__" : Str))
def conA : D → Const → Bool
  | .non, .none => true
  | .bl b, .bool c => b == c
  | .int i, .int j => i == j
  | .str s, .str x => decide (x = tx s) && decide (s.length ≤ lim)
  | _, _ => false
def opA : BOp → Operator
  | .add => .Add
  | .sub => .Sub
  | .mul => .Mult
  | .fdiv => .FloorDiv
  | .mod => .Mod
  | .pow => .Pow
section
variable {Y : Txt} {X : Cx} {n : Nat} {c : Sco} {Z : WX} {pos : Pos}
theorem lay_K : (Y.lay X.K X.w).K = X.K := rfl
theorem lay_w : (Y.lay X.K X.w).w = X.w := rfl
theorem opS_of {L : Lay} {H : Hp} {al : List Addr} {S : Store} {z : D} {Q : VK} {E : XK} (h : Runs L al.length H al (RepW L) (.ok (.d z) S) Q E) (rs : RelS L H S al) : OpS L H S al z Q :=
  ⟨rs, fun H' v k r => h v H' al (Step.kept (Nat.le_refl _) k) (rs.kept k) r⟩
theorem s_var (G : Good Y X n c Z) {i : Nat} {x : Str} (hN : c.N[i]? = some x) (hv : visB c.sc x = true) : PE X (.Name x pos) (tE Y X n Z (.var i)) := by
  simp only [visB, Bool.and_eq_true, Bool.not_eq_true'] at hv
  have vis : Vis X.env.scope x := by
    rw [G.sc]
    have := hv.1.1
    split at this
    · rename_i e; exact .inl e
    · rename_i e; exact .inr (.inl e)
    · rename_i e; exact .inr (.inr e)
    · cases this
  refine PE.imp (pe_var (i := i) (by rw [G.names]; exact hN) vis hv.1.2 hv.2) ?_
  rintro σ H Q ⟨env, S, al, re, rs, h⟩
  obtain ⟨w, ew, h2⟩ := Runs.of_of (show Runs _ _ H al _ (R.of (slot env i) S) Q _ from h)
  have e2 : env[i]? = some (some w) := by
    unfold slot at ew
    cases q : env[i]? with
    | none => rw [q] at ew; cases ew
    | some o => rw [q] at ew; simp only [Option.bind_some, id] at ew; rw [ew]
  obtain ⟨v, e3, r⟩ := re.at_ i w e2
  exact ⟨v, e3, h2.here (Nat.le_refl _) rs r⟩
theorem pe_conA {d : D} {k : Const} {j : Nat} (h : conA d k = true) : ∃ v, (∀ L H al, RepD L H al d v) ∧ ∀ X : Cx, PE X (.Constant k j pos) (tC v) := by
  cases d <;> cases k <;> simp only [conA, Bool.false_eq_true, Bool.and_eq_true, decide_eq_true_eq] at h
  · exact ⟨.non, fun _ _ _ => by simp [RepD], fun _ => pe_non⟩
  · rename_i b c
    rw [eq_of_beq h]
    exact ⟨.bl c, fun _ _ _ => by simp [RepD], fun _ => pe_bl⟩
  · rename_i b c
    rw [eq_of_beq h]
    exact ⟨.int c, fun _ _ _ => by simp [RepD], fun _ => pe_int⟩
  · rename_i s x
    obtain ⟨rfl, hl⟩ := h
    exact ⟨.str (tx s), fun _ _ _ => by simp only [RepD]; exact ⟨trivial, hl⟩, fun _ => pe_str⟩
theorem s_con {d : D} {k : Const} {j : Nat} (h : conA d k = true) : PE X (.Constant k j pos) (tE Y X n Z (.con d)) := by
  obtain ⟨v, r, p⟩ := pe_conA (pos := pos) (j := j) h
  refine PE.imp (p X) ?_
  rintro σ H Q ⟨env, S, al, re, rs, h⟩
  exact Runs.here (show Runs (Y.lay X.K X.w) _ H al (RepW (Y.lay X.K X.w)) (.ok (.d d) S) Q _ from h) (Nat.le_refl _) rs (r _ _ _)
theorem gl_of (G : Good Y X n c Z) {x : Str} (h : glB c.sc x = true) : Gl X x ∧ (x == ("__debug__" : Str)) = false ∧ x ≠ ("__name__" : Str) := by
  simp only [glB, Bool.and_eq_true, Bool.not_eq_true'] at h
  refine ⟨?_, h.1.2, fun e => ?_⟩
  · show X.env.scope.names.lookup x = _
    rw [G.sc]
    have := h.1.1
    split at this
    · assumption
    · cases this
  · have := h.2
    rw [e] at this
    simp at this
theorem s_glo (G : Good Y X n c Z) {i : Nat} {x : Str} (hN : Y.gn[i]? = some x) (hg : glB c.sc x = true) : PE X (.Name x pos) (tE Y X n Z (.glo i)) := by
  obtain ⟨h1, h2, -⟩ := gl_of G hg
  cases q : Y.T.glob[i]? with
  | none =>
    refine ⟨fun pins s σ H Q I h => ?_⟩
    obtain ⟨env, S, al, re, rs, h⟩ := h
    obtain ⟨d, e, -⟩ := Runs.of_bind (show Runs _ _ H al _ ((R.of (Y.T.glob[i]?) S).bind _) Q _ from h)
    rw [q] at e
    cases e
  | some d =>
    obtain ⟨u, v, e, rv, r⟩ := G.lnk.con q hN
    refine PE.imp (pe_glob h1 e rv h2) ?_
    rintro σ H Q ⟨env, S, al, re, rs, h⟩
    obtain ⟨d', e', h3⟩ := Runs.of_bind (show Runs _ _ H al _ ((R.of (Y.T.glob[i]?) S).bind _) Q _ from h)
    rw [q] at e'
    cases e'
    exact Runs.here h3 (Nat.le_refl _) rs (r _ _)
/-- two expressions in a row -/
theorem two {a b : Ex} {σ : L2.St} {H : Hp} {Q : VK} {f : W → W → Store → R W} {R2 : V → V → Hp → Prop} (h : ∃ env S al, RelE (Y.lay X.K X.w) H al env σ ∧ RelS (Y.lay X.K X.w) H S al ∧ Runs (Y.lay X.K X.w) al.length H al (RepW (Y.lay X.K X.w))
      ((evE Y.T (callD Y.T n) a env S).bind fun x S1 => (evE Y.T (callD Y.T n) b env S1).bind fun y S2 => f x y S2) Q (AtX Z σ))
    (k : ∀ x y S u v H2 al, RelS (Y.lay X.K X.w) H2 S al → RepW (Y.lay X.K X.w) H2 al x u → RepW (Y.lay X.K X.w) H2 al y v → Runs (Y.lay X.K X.w) al.length H2 al (RepW (Y.lay X.K X.w)) (f x y S) Q (AtX Z σ) → R2 u v H2) :
    tE Y X n Z a σ H fun u H1 => tE Y X n Z b σ H1 fun v H2 => R2 u v H2 := by
  obtain ⟨env, S, al, re, rs, h⟩ := h
  refine ⟨env, S, al, re, rs, h.bind fun x S1 u H1 al1 _ st rs1 rx h1 => ⟨env, S1, al1, re.step st (Nat.le_refl _), rs1, h1.bind fun y S2 v H2 al2 _ st2 rs2 ry h2 => ?_⟩⟩
  exact k x y S2 u v H2 al2 rs2 (rx.step st2 (Nat.le_refl _)) ry h2
theorem s_bin (G : Good Y X n c Z) {o : BOp} {a b : Ex} {ea eb : Expr} (ha : PE X ea (tE Y X n Z a)) (hb : PE X eb (tE Y X n Z b)) : PE X (.BinOp ea (opA o) eb pos) (tE Y X n Z (.bin o a b)) := by
  have ho : OpR X (binaryOp (opA o)) (rOp (Y.lay X.K X.w) (bin o)) := by
    cases o with
    | add => exact or_add lay_K
    | sub => exact or_sub
    | mul => exact or_mul
    | fdiv => exact or_fdiv
    | mod => exact or_mod
    | pow => exact or_pow
  refine PE.imp (pe_op ho ha hb) fun σ H Q h => two h ?_
  intro x y S u v H2 al rs rx ry h2
  split at h2
  · rename_i d d' e1 e2
    obtain ⟨z, ez, h3⟩ := h2.of_bind
    exact ⟨d, d', z, S, al, rx.rt rs e1, ry.rt rs e2, ez, opS_of h3 rs⟩
  · exact h2.elim
theorem s_neg {a : Ex} {ea : Expr} (ha : PE X ea (tE Y X n Z a)) : PE X (.UnaryOp .USub ea pos) (tE Y X n Z (.neg a)) := by
  refine PE.imp (pe_un (ur_neg (L := Y.lay X.K X.w)) ha) ?_
  rintro σ H Q ⟨env, S, al, re, rs, h⟩
  refine ⟨env, S, al, re, rs, Runs.bind h fun x S1 u H1 al1 _ st rs1 rx h1 => ?_⟩
  obtain ⟨z, ez, h2⟩ := h1.of_bind
  obtain ⟨d, ed, ez⟩ := Option.bind_eq_some_iff.mp ez
  exact ⟨d, z, S1, al1, rx.rt rs1 ed, ez, opS_of h2 rs1⟩
/-- a bool -/
theorem asBl_of {α β : Type} {L : Lay} {m : Nat} {H : Hp} {al : List Addr} {S : Store} {x : W} {f : Bool → Store → R α} {Rp : Hp → List Addr → α → β → Prop} {Q : β → Hp → Prop} {E : XK} (h : Runs L m H al Rp ((asBl x S).bind f) Q E) {v : V} (r : RepW L H al x v) :
    ∃ b, v = .bl b ∧ Runs L m H al Rp (f b S) Q E := by
  cases x with
  | loc k => exact h.elim
  | d z =>
    cases z with
    | bl b => exact ⟨b, by simpa only [RepW, RepD] using r, h⟩
    | _ => exact h.elim
theorem s_not {a : Ex} {ea : Expr} (ha : PE X ea (tE Y X n Z a)) : PE X (.UnaryOp .Not ea pos) (tE Y X n Z (.not a)) := by
  refine PE.imp (pe_not ha) ?_
  rintro σ H Q ⟨env, S, al, re, rs, h⟩
  refine ⟨env, S, al, re, rs, Runs.bind h fun x S1 u H1 al1 _ st rs1 rx h1 => ?_⟩
  obtain ⟨b, rfl, h2⟩ := asBl_of h1 rx
  exact ⟨b, rfl, h2.here (Nat.le_refl _) rs1 (by simp [RepW, RepD])⟩
theorem s_and {a b : Ex} {ea eb : Expr} {rest : List Expr} (ha : PE X ea (tE Y X n Z a)) (hb : PE X (.BoolOp .And (eb :: rest) pos) (tE Y X n Z b)) : PE X (.BoolOp .And (ea :: eb :: rest) pos) (tE Y X n Z (.and a b)) := by
  refine PE.imp (pe_and ha hb) ?_
  rintro σ H Q ⟨env, S, al, re, rs, h⟩
  refine ⟨env, S, al, re, rs, Runs.bind h fun x S1 u H1 al1 _ st rs1 rx h1 => ?_⟩
  obtain ⟨b, rfl, h2⟩ := asBl_of h1 rx
  refine ⟨b, rfl, ?_⟩
  cases b with
  | true => exact ⟨env, S1, al1, re.step st (Nat.le_refl _), rs1, h2⟩
  | false => exact Runs.here (show Runs (Y.lay X.K X.w) _ H1 al1 (RepW (Y.lay X.K X.w)) (.ok (.d (.bl false)) S1) Q _ from h2) (Nat.le_refl _) rs1 (by simp [RepW, RepD])
theorem s_or {a b : Ex} {ea eb : Expr} {rest : List Expr} (ha : PE X ea (tE Y X n Z a)) (hb : PE X (.BoolOp .Or (eb :: rest) pos) (tE Y X n Z b)) : PE X (.BoolOp .Or (ea :: eb :: rest) pos) (tE Y X n Z (.or a b)) := by
  refine PE.imp (pe_or ha hb) ?_
  rintro σ H Q ⟨env, S, al, re, rs, h⟩
  refine ⟨env, S, al, re, rs, Runs.bind h fun x S1 u H1 al1 _ st rs1 rx h1 => ?_⟩
  obtain ⟨b, rfl, h2⟩ := asBl_of h1 rx
  refine ⟨b, rfl, ?_⟩
  cases b with
  | false => exact ⟨env, S1, al1, re.step st (Nat.le_refl _), rs1, h2⟩
  | true => exact Runs.here (show Runs (Y.lay X.K X.w) _ H1 al1 (RepW (Y.lay X.K X.w)) (.ok (.d (.bl true)) S1) Q _ from h2) (Nat.le_refl _) rs1 (by simp [RepW, RepD])

/-! ### tests -/
theorem t_not {a : Ex} {ea : Expr} (ha : PT X ea (tT Y X n Z a)) : PT X (.UnaryOp .Not ea pos) (tT Y X n Z (.not a)) := by
  refine PT.imp (pt_not ha) ?_
  rintro σ H Q ⟨env, S, al, re, rs, h⟩
  exact ⟨env, S, al, re, rs, Runs.bind h fun x S1 u H1 al1 _ st rs1 rx h1 => h1.here (Nat.le_refl _) rs1 (by rw [rx])⟩
theorem pw_of {op : BoolOp} {es : List Expr} {t : TT} (h : PT X (.BoolOp op es pos) t) : PW X (.BoolOp op es pos) t := ⟨fun _ pins s σ H Q I hw => h.run pins s σ H Q I hw⟩
theorem t_and {a b : Ex} {ea eb : Expr} {rest : List Expr} (ha : PT X ea (tT Y X n Z a)) (hb : PT X (.BoolOp .And (eb :: rest) pos) (tT Y X n Z b)) : PT X (.BoolOp .And (ea :: eb :: rest) pos) (tT Y X n Z (.and a b)) := by
  refine PT.imp (pw_and ha (pw_of hb)).pt ?_
  rintro σ H Q ⟨env, S, al, re, rs, h⟩
  refine ⟨env, S, al, re, rs, Runs.bind h fun x S1 u H1 al1 _ st rs1 rx h1 => ?_⟩
  subst rx
  cases x with
  | true => exact ⟨env, S1, al1, re.step st (Nat.le_refl _), rs1, h1⟩
  | false => exact Runs.here (show Runs _ _ H1 al1 _ (.ok false S1) Q _ from h1) (Nat.le_refl _) rs1 rfl
theorem t_or {a b : Ex} {ea eb : Expr} {rest : List Expr} (ha : PT X ea (tT Y X n Z a)) (hb : PT X (.BoolOp .Or (eb :: rest) pos) (tT Y X n Z b)) : PT X (.BoolOp .Or (ea :: eb :: rest) pos) (tT Y X n Z (.or a b)) := by
  refine PT.imp (pw_or ha (pw_of hb)).pt ?_
  rintro σ H Q ⟨env, S, al, re, rs, h⟩
  refine ⟨env, S, al, re, rs, Runs.bind h fun x S1 u H1 al1 _ st rs1 rx h1 => ?_⟩
  subst rx
  cases x with
  | false => exact ⟨env, S1, al1, re.step st (Nat.le_refl _), rs1, h1⟩
  | true => exact Runs.here (show Runs _ _ H1 al1 _ (.ok true S1) Q _ from h1) (Nat.le_refl _) rs1 rfl
theorem t_one {op : BoolOp} {ea : Expr} {t : TT} (h : PT X ea t) : PT X (.BoolOp op [ea] pos) t := by
  cases op with
  | And => exact (pw_and1 h).pt
  | Or => exact (pw_or1 h).pt
theorem s_ite {a b d : Ex} {ea eb ed : Expr} (hc : PT X ed (tT Y X n Z d)) (ha : PE X ea (tE Y X n Z a)) (hb : PE X eb (tE Y X n Z b)) : PE X (.IfExp ed ea eb pos) (tE Y X n Z (.ite d a b)) := by
  refine PE.imp (pe_ifExp hc ha hb) ?_
  rintro σ H Q ⟨env, S, al, re, rs, h⟩
  refine ⟨env, S, al, re, rs, Runs.bind h fun x S1 u H1 al1 _ st rs1 rx h1 => ?_⟩
  subst rx
  cases x with
  | true => exact ⟨env, S1, al1, re.step st (Nat.le_refl _), rs1, h1⟩
  | false => exact ⟨env, S1, al1, re.step st (Nat.le_refl _), rs1, h1⟩
/-- the forms of core tests that are read otherwise -/
def leafT : Ex → Bool
  | .not _ => false
  | .and _ _ => false
  | .or _ _ => false
  | .ite _ _ _ => false
  | _ => true
/-- the forms of tests that are a value's truth -/
def leafA : Expr → Bool
  | .UnaryOp .Not _ _ => false
  | .BoolOp _ _ _ => false
  | .IfExp _ _ _ _ => false
  | .Compare _ _ _ _ => false
  | _ => true
theorem leafA_of {e : Expr} (h : leafA e = true) (env : PySem.Env) : ∀ whole, isTrue e env whole = (do let v ← whole; standAt e.pos; holding [v] (truthy v)) := by
  intro whole
  cases e with
  | UnaryOp o _ _ => cases o <;> first | rfl | cases h
  | BoolOp _ _ _ => cases h
  | IfExp _ _ _ _ => cases h
  | Compare _ _ _ _ => cases h
  | _ => rfl
theorem evT_leaf {T : Tab} {Φ : Phi} {e : Ex} (h : leafT e = true) (wh : Env → Store → R W) (env : Env) (S : Store) : evT T Φ e wh env S = (wh env S).bind fun x S1 => R.of ((rd S1 x).bind truth) S1 := by
  cases e <;> first | rfl | cases h
theorem t_val (G : Good Y X n c Z) {a : Ex} {ea : Expr} (ha : PE X ea (tE Y X n Z a)) (h1 : leafT a = true) (h2 : leafA ea = true) : PT X ea (tT Y X n Z a) := by
  refine PT.imp (pt_truth ha (leafA_of h2 X.env)) ?_
  rintro σ H Q ⟨env, S, al, re, rs, h⟩
  rw [evT_leaf h1] at h
  refine ⟨env, S, al, re, rs, Runs.bind h fun x S1 u H1 al1 _ st rs1 rx h2 => ?_⟩
  obtain ⟨k, ek, h3⟩ := h2.of_of
  obtain ⟨d, ed, ek⟩ := Option.bind_eq_some_iff.mp ek
  exact ⟨k, tru_rep (L := Y.lay X.K X.w) lay_K (rx.rt rs1 ed) ek, h3.here (Nat.le_refl _) rs1 rfl⟩
/-- the end of a comparison as a test -/
theorem truth_bl {L : Lay} {m : Nat} {H : Hp} {al : List Addr} {S : Store} {x : W} {Q : Bool → Hp → Prop} {E : XK} (h : Runs L m H al (fun _ _ a b => a = b) (R.of ((rd S x).bind truth) S) Q E) {v : V} (r : RepW L H al x v) (hx : ∃ b, x = .d (.bl b)) (hm : m ≤ al.length) (rs : RelS L H S al) :
    ∃ k, v = .bl k ∧ Q k H := by
  obtain ⟨b, rfl⟩ := hx
  exact ⟨b, by simpa only [RepW, RepD] using r, Runs.here (show Runs L m H al (fun _ _ a b => a = b) (.ok b S) Q E from h) hm rs rfl⟩
end
end Ev
end
section
/-! EvD4: expressions: displays, parts, attributes, calls. Own work. -/
set_option linter.all false
set_option autoImplicit false
set_option maxRecDepth 100000
set_option maxHeartbeats 1000000
namespace Ev
open PySem PySem.Spec PyProof.Rows L2

def notStar : Expr → Bool
  | .Starred _ _ => false
  | _ => true
theorem star_cons {e : Expr} {es : List Expr} {env : PySem.Env} (h : notStar e = true) : starEach (e :: es) env = (false, eval e env) :: starEach es env := by
  cases e <;> first | rfl | cases h
theorem star_any {pos : Pos} {env : PySem.Env} : ∀ {es : List Expr}, es.all notStar = true → (backTo pos (starEach es env)).any (·.1) = false
  | [], _ => rfl
  | e :: es, h => by
    simp only [List.all_cons, Bool.and_eq_true] at h
    rw [star_cons h.1]
    show (false || (backTo pos (starEach es env)).any (·.1)) = false
    rw [star_any h.2]
    rfl
/-- the keywords' names, if each has one -/
def kwN (kws : List Keyword) : List Str := kws.filterMap (·.arg)
def kwAll (kws : List Keyword) : Bool := kws.all fun k => k.arg.isSome
theorem kw_facts {pos : Pos} {env : PySem.Env} : ∀ {kws : List Keyword}, kwAll kws = true → (backToKw pos (keywordEach kws env)).all (·.1.isSome) = true ∧ (backToKw pos (keywordEach kws env)).filterMap (·.1) = kwN kws ∧ (backToKw pos (keywordEach kws env)).any (·.1.isNone) = false
  | [], _ => ⟨rfl, rfl, rfl⟩
  | ⟨nm, e, kp⟩ :: kws, h => by
    simp only [kwAll, List.all_cons, Bool.and_eq_true] at h
    obtain ⟨h1, h2, h3⟩ := kw_facts (pos := pos) (env := env) (kws := kws) h.2
    cases nm with
    | none => exact absurd h.1 (by simp)
    | some x =>
      refine ⟨?_, ?_, ?_⟩
      · show (true && (backToKw pos (keywordEach kws env)).all (·.1.isSome)) = true
        rw [h1]; rfl
      · show x :: (backToKw pos (keywordEach kws env)).filterMap (·.1) = x :: kwN kws
        rw [h2]
      · show (false || (backToKw pos (keywordEach kws env)).any (·.1.isNone)) = false
        rw [h3]; rfl
section
variable {Y : Txt} {X : Cx} {n : Nat} {c : Sco} {Z : WX} {pos apos : Pos}

/-! ### several expressions -/
theorem s_nil : PA X [] (tEs Y X n Z .nil) := by
  refine PA.imp pa_nil ?_
  rintro σ H Q ⟨env, S, al, re, rs, h⟩
  exact Runs.here (show Runs (Y.lay X.K X.w) _ H al (RepWs (Y.lay X.K X.w)) (.ok [] S) Q _ from h) (Nat.le_refl _) rs rfl
theorem t_cons {e : Ex} {es : Exs} {σ : L2.St} {H : Hp} {Q : List V → Hp → Prop} (h : tEs Y X n Z (.cons e es) σ H Q) : tCons (tE Y X n Z e) (tEs Y X n Z es) σ H Q := by
  obtain ⟨env, S, al, re, rs, h⟩ := h
  refine ⟨env, S, al, re, rs, Runs.bind h fun x S1 u H1 al1 _ st rs1 rx h1 => ⟨env, S1, al1, re.step st (Nat.le_refl _), rs1, h1.bind fun ws S2 us H2 al2 _ st2 rs2 rws h2 => ?_⟩⟩
  exact h2.here (Nat.le_refl _) rs2 (.cons (rx.step st2 (Nat.le_refl _)) rws)
theorem s_cons {e : Ex} {es : Exs} {ea : Expr} {as : List Expr} (ha : PE X ea (tE Y X n Z e)) (hr : PA X as (tEs Y X n Z es)) (hs : notStar ea = true) : PA X (ea :: as) (tEs Y X n Z (.cons e es)) :=
  PA.imp (pa_cons ha hr (star_cons hs)) fun _ _ _ h => t_cons h
theorem k_nil : PK X [] (tEs Y X n Z .nil) := by
  refine PK.imp pk_nil ?_
  rintro σ H Q ⟨env, S, al, re, rs, h⟩
  exact Runs.here (show Runs (Y.lay X.K X.w) _ H al (RepWs (Y.lay X.K X.w)) (.ok [] S) Q _ from h) (Nat.le_refl _) rs rfl
theorem k_cons {e : Ex} {es : Exs} {nm : Option Str} {ea : Expr} {kp : Pos} {as : List Keyword} (ha : PE X ea (tE Y X n Z e)) (hr : PK X as (tEs Y X n Z es)) : PK X (⟨nm, ea, kp⟩ :: as) (tEs Y X n Z (.cons e es)) :=
  PK.imp (pk_cons ha hr) fun _ _ _ h => t_cons h
def lenEs : Exs → Nat
  | .nil => 0
  | .cons _ es => lenEs es + 1
theorem evEs_len {T : Tab} {Φ : Phi} : ∀ {es : Exs} {env : Env} {S S' : Store} {ws : List W}, evEs T Φ es env S = .ok ws S' → ws.length = lenEs es
  | .nil, env, S, S', ws, h => by
    have h : R.ok [] S = R.ok ws S' := h
    cases h; rfl
  | .cons e es, env, S, S', ws, h => by
    have h : ((evE T Φ e env S).bind fun w S1 => (evEs T Φ es env S1).bind fun ws S2 => R.ok (w :: ws) S2) = R.ok ws S' := h
    cases q : evE T Φ e env S with
    | ok w S1 =>
      rw [q, R.bind_ok] at h
      cases q2 : evEs T Φ es env S1 with
      | ok us S2 =>
        rw [q2, R.bind_ok] at h
        cases h
        rw [List.length_cons, evEs_len q2]; rfl
      | ex _ _ _ => rw [q2] at h; cases h
      | bad => rw [q2] at h; cases h
    | ex _ _ _ => rw [q] at h; cases h
    | bad => rw [q] at h; cases h

/-! ### displays -/
theorem fresh_ok {L : Lay} {m : Bool} {ds : List D} {S : Store} {H : Hp} {al : List Addr} {Q : VK} {E : XK} (h : Runs L al.length H al (RepW L) (fresh m ds S) Q E) (rs : RelS L H S al) {vs : List V} (r : RepDs L H al ds vs) {p : Addr} (hp : H p = none) : Q (.ref p) (upd H p (.lst vs)) := by
  cases m with
  | false => exact (opS_of (show Runs L al.length H al (RepW L) (.ok (.d (.lst ds)) S) Q E from h) rs).newL hp r
  | true =>
    have k := keep_upd (o := HO.lst vs) hp
    refine (show Runs L al.length H al (RepW L) (.ok (.loc S.length) (S ++ [.lst ds])) Q E from h) (.ref p) _ (al ++ [p]) (Step.push (Nat.le_refl _) hp k) (rs.push (o := .lst vs) hp k ?_) ?_
    · refine ⟨vs, upd_same, r.stay fun a o e mm => ⟨k a o e, ?_⟩⟩
      simp only [List.mem_append, List.mem_singleton, not_or]
      exact ⟨mm, fun z => by subst z; rw [hp] at e; cases e⟩
    · exact ⟨p, by rw [← rs.len]; simp, rfl⟩
theorem lim_of {k : Nat} (h : k ≤ 4000) : k ≤ sizeLine := Nat.le_trans h (Nat.le_trans (by decide) lim_line)
theorem s_lst {m : Bool} {es : Exs} {as : List Expr} (ha : PA X as (tEs Y X n Z es)) (hl : lenEs es ≤ 4000) : PE X (.List as pos) (tE Y X n Z (.lst m es)) := by
  refine PE.imp (pe_lst ha) ?_
  rintro σ H Q ⟨env, S, al, re, rs, h⟩
  refine ⟨env, S, al, re, rs, Runs.bind h fun ws S1 vs H1 al1 ev st rs1 rws h1 => ?_⟩
  obtain ⟨ds, ed, h2⟩ := h1.of_bind
  have r := rws.dats ed
  exact ⟨lim_of (by rw [← rws.length, evEs_len ev]; exact hl), fun p hp => fresh_ok h2 rs1 r hp⟩
theorem s_tup {es : Exs} {as : List Expr} {k : Nat} (ha : PA X as (tEs Y X n Z es)) (hl : lenEs es ≤ 4000) : PE X (.Tuple as k pos) (tE Y X n Z (.tup es)) := by
  refine PE.imp (pe_tup ha) ?_
  rintro σ H Q ⟨env, S, al, re, rs, h⟩
  refine ⟨env, S, al, re, rs, Runs.bind h fun ws S1 vs H1 al1 ev st rs1 rws h1 => ?_⟩
  obtain ⟨ds, ed, h2⟩ := h1.of_bind
  have r := rws.dats ed
  exact ⟨lim_of (by rw [← rws.length, evEs_len ev]; exact hl), fun p hp => (opS_of h2 rs1).newT hp r⟩

/-! ### parts -/
theorem s_idx (G : Good Y X n c Z) {a i : Ex} {ea ei : Expr} (ha : PE X ea (tE Y X n Z a)) (hi : PE X ei (tE Y X n Z i)) (hp : PlainIx ei) : PE X (.Subscript ea ei pos) (tE Y X n Z (.idx a i)) := by
  refine PE.imp (pe_ix (ix_item (L := Y.lay X.K X.w) lay_K lay_w (by have := G.room.un; omega)) ha hi hp) ?_
  rintro σ H Q ⟨env, S, al, re, rs, h⟩
  refine two ⟨env, S, al, re, rs, h⟩ ?_
  intro x y S u v H2 al rs rx ry h2
  split at h2
  · rename_i d d' e1 e2
    obtain ⟨z, ez, h3⟩ := h2.of_bind
    exact ⟨d, d', z, S, al, rx.rt rs e1, ry.rt rs e2, ez, opS_of h3 rs⟩
  · exact h2.elim
def tO (Y : Txt) (X : Cx) (n : Nat) (Z : WX) (o : Eo) : TO := fun σ H Q => ∃ env S al, RelE (Y.lay X.K X.w) H al env σ ∧ RelS (Y.lay X.K X.w) H S al ∧ Runs (Y.lay X.K X.w) al.length H al (fun _ _ a b => a = b) (evO Y.T (callD Y.T n) o env S) Q (AtX Z σ)
theorem o_none : PO X none (tO Y X n Z .no) := by
  refine ⟨fun pins s σ H Q I hw => po_none.run pins s σ H Q I ?_⟩
  obtain ⟨env, S, al, re, rs, h⟩ := hw
  exact Runs.here (Rq := fun _ _ (a b : Option Int) => a = b) (show Runs (Y.lay X.K X.w) _ H al _ (.ok none S) Q _ from h) (Nat.le_refl _) rs rfl
theorem o_some {e : Ex} {ea : Expr} (ha : PE X ea (tE Y X n Z e)) : PO X (some ea) (tO Y X n Z (.so e)) := by
  refine ⟨fun pins s σ H Q I hw => (po_some ha).run pins s σ H Q I ?_⟩
  obtain ⟨env, S, al, re, rs, h⟩ := hw
  refine ⟨env, S, al, re, rs, Runs.bind h fun w S1 v H1 al1 _ st rs1 rw_ h1 => ?_⟩
  split at h1
  · rename_i i e1
    exact ⟨i, (rw_.rt rs1 e1).int, h1.here (Nat.le_refl _) rs1 rfl⟩
  · exact h1.elim
theorem s_slc {a : Ex} {lo hi : Eo} {ea : Expr} {el eh : Option Expr} {p2 : Pos} (ha : PE X ea (tE Y X n Z a)) (hl : PO X el (tO Y X n Z lo)) (hh : PO X eh (tO Y X n Z hi)) : PE X (.Subscript ea (.Slice el eh none p2) pos) (tE Y X n Z (.slc a lo hi)) := by
  refine PE.imp (pe_slice (sl_slice (L := Y.lay X.K X.w) lay_K) ha hl hh) ?_
  rintro σ H Q ⟨env, S, al, re, rs, h⟩
  refine ⟨env, S, al, re, rs, Runs.bind h fun x S1 v H1 al1 _ st rs1 rx h1 => ⟨env, S1, al1, re.step st (Nat.le_refl _), rs1, h1.bind fun l S2 l' H2 al2 _ st2 rs2 el h2 =>
    ⟨env, S2, al2, (re.step st (Nat.le_refl _)).step st2 (Nat.le_refl _), rs2, h2.bind fun u S3 u' H3 al3 _ st3 rs3 eu h3 => ?_⟩⟩⟩
  subst el eu
  obtain ⟨z, ez, h4⟩ := h3.of_bind
  obtain ⟨d, ed, ez⟩ := Option.bind_eq_some_iff.mp ez
  exact ⟨d, z, S3, al3, ((rx.step st2 (Nat.le_refl _)).step st3 (Nat.le_refl _)).rt rs3 ed, ez, opS_of h4 rs3⟩
end
end Ev
end
section
/-! EvD5: expressions: attributes, calls. Own work. -/
set_option linter.all false
set_option autoImplicit false
set_option maxRecDepth 100000
set_option maxHeartbeats 1000000
namespace Ev
open PySem PySem.Spec PyProof.Rows L2

/-! ### names of attributes -/
section
variable {Y : Txt} {K : PySem.W.Frag}
structure StatF (Y : Txt) : Prop where
  nd : Y.an.Nodup
  ne : ("" : Str) ∉ Y.an
  cn : Y.cn.length = Y.T.cls.length
  gn : Y.gn.length = Y.T.glob.length
  fl : ∀ k ∈ Y.T.cls, ∀ f ∈ k.flds, f < Y.an.length
  fn : ∀ k ∈ Y.T.cls, k.flds.Nodup
  at_ : ∀ k ∈ Y.T.cls, ∀ f a, k.ats.lookup f = some a → f < Y.an.length
  af : ∀ k ∈ Y.T.cls, ∀ f j, k.ats.lookup f = some (.fld j) → k.flds[j]? = some f
  ms : ∀ k ∈ Y.T.cls, ∀ m g, k.ms.lookup m = some g → m < Y.an.length ∧ m ∉ k.flds ∧ g < Y.defs.length
theorem stat_of (h : Y.stat = true) : StatF Y := by
  simp only [Txt.stat, Bool.and_eq_true, decide_eq_true_eq, List.all_eq_true, Bool.not_eq_true'] at h
  obtain ⟨⟨⟨⟨h1, h2⟩, h3⟩, h4⟩, h5⟩ := h
  refine ⟨h1, fun m => ?_, h3, h4, fun k hk f hf => (h5 k hk).1.1.1 f hf, fun k hk => (h5 k hk).1.1.2, fun k hk f a l => ((h5 k hk).1.2 _ (lookup_mem l)).1, fun k hk f j l => ?_, fun k hk m g l => ?_⟩
  · rw [List.contains_iff_mem.mpr m] at h2; cases h2
  · have := ((h5 k hk).1.2 _ (lookup_mem l)).2
    exact eq_of_beq this
  · have := (h5 k hk).2 _ (lookup_mem l)
    refine ⟨this.1.1, fun z => ?_, this.2⟩
    rw [List.contains_iff_mem.mpr z] at this
    exact absurd this.1.2 (by simp)
/-- an attribute's name in range is no other attribute's -/
theorem nm_inj (s : StatF Y) {i j : Nat} (hi : i < Y.an.length) (h : Y.an.getD i "" = Y.an.getD j "") : i = j := by
  rw [List.getD_eq_getElem?_getD, List.getD_eq_getElem?_getD, List.getElem?_eq_getElem hi, Option.getD_some] at h
  by_cases hj : j < Y.an.length
  · rw [List.getElem?_eq_getElem hj, Option.getD_some] at h
    exact (List.getElem_inj s.nd).mp h
  · rw [List.getElem?_eq_none (by omega), Option.getD_none] at h
    exact absurd (h ▸ List.getElem_mem hi) s.ne
theorem look_fld {nm : Nat → Str} {L : Lay} {H : Hp} {al : List Addr} {f : Nat} (inj : ∀ g, nm f = nm g → f = g) : ∀ {fs : List (Nat × D)} {fvs : List (Str × V)} {x : D}, fvs.map (·.1) = fs.map (fun p => nm p.1) → RepDs L H al (fs.map (·.2)) (fvs.map (·.2)) →
    fs.lookup f = some x → ∃ v, fvs.lookup (nm f) = some v ∧ RepD L H al x v
  | [], _, _, _, _, h => by cases h
  | (g, y) :: fs, [], _, e, _, _ => by simp at e
  | (g, y) :: fs, (a, v) :: fvs, x, e, r, h => by
    simp only [List.map_cons, List.cons.injEq] at e
    simp only [List.map_cons, RepDs] at r
    obtain ⟨v', us, e2, r1, r2⟩ := r
    simp only [List.cons.injEq] at e2
    obtain ⟨rfl, rfl⟩ := e2
    rw [List.lookup_cons] at h ⊢
    by_cases hb : f = g
    · subst hb
      rw [beq_self_eq_true] at h
      cases h
      rw [e.1, beq_self_eq_true]
      exact ⟨v, rfl, r1⟩
    · have h1 : (f == g) = false := beq_eq_false_iff_ne.mpr hb
      have h2 : (nm f == a) = false := beq_eq_false_iff_ne.mpr fun z => hb (inj g (z.trans e.1))
      rw [h1] at h
      rw [h2]
      exact look_fld inj e.2 r2 h
theorem look_none {nm : Nat → Str} {f : Nat} (inj : ∀ g, nm f = nm g → f = g) : ∀ {fs : List Nat} {fvs : List (Str × V)}, fvs.map (·.1) = fs.map nm → f ∉ fs → fvs.lookup (nm f) = none
  | _, [], _, _ => rfl
  | [], _ :: _, e, _ => by simp at e
  | g :: fs, (a, v) :: fvs, e, h => by
    simp only [List.map_cons, List.cons.injEq] at e
    simp only [List.mem_cons, not_or] at h
    have h2 : (nm f == a) = false := beq_eq_false_iff_ne.mpr fun z => h.1 (inj g (z.trans e.1))
    rw [List.lookup_cons, h2]
    exact look_none inj e.2 h.2
theorem look_ix {nm : Nat → Str} {L : Lay} {H : Hp} {al : List Addr} {f : Nat} (inj : ∀ g, nm f = nm g → f = g) : ∀ {fl : List Nat} {xs : List D} {fvs : List (Str × V)} {j : Nat} {x : D}, fvs.map (·.1) = fl.map nm → fl.Nodup → RepDs L H al xs (fvs.map (·.2)) → fl[j]? = some f → xs[j]? = some x →
    ∃ v, fvs.lookup (nm f) = some v ∧ RepD L H al x v
  | [], _, _, _, _, _, _, _, h, _ => by simp at h
  | g :: fl, _, [], _, _, e, _, _, _, _ => by simp at e
  | g :: fl, [], (a, v) :: fvs, _, _, _, _, r, _, h => by simp at h
  | g :: fl, y :: xs, (a, v) :: fvs, j, x, e, nd, r, h1, h2 => by
    simp only [List.map_cons, List.cons.injEq] at e
    simp only [List.map_cons, RepDs] at r
    obtain ⟨v', us, e2, r1, r2⟩ := r
    simp only [List.cons.injEq] at e2
    obtain ⟨rfl, rfl⟩ := e2
    rw [List.lookup_cons]
    cases j with
    | zero =>
      simp only [List.getElem?_cons_zero, Option.some.injEq] at h1 h2
      subst h1 h2
      rw [e.1, beq_self_eq_true]
      exact ⟨v, rfl, r1⟩
    | succ j =>
      simp only [List.getElem?_cons_succ] at h1 h2
      have hne : f ≠ g := fun z => (List.nodup_cons.mp nd).1 (z ▸ List.mem_of_getElem? h1)
      have hb : (nm f == a) = false := beq_eq_false_iff_ne.mpr fun z => hne (inj g (z.trans e.1))
      rw [hb]
      exact look_ix inj e.2 (List.nodup_cons.mp nd).2 r2 h1 h2
end

/-! ### how a call binds -/
def pickVV (vs zs dvs : List V) : Src → V
  | .pos i => vs.getD i .non
  | .kw j => zs.getD j .non
  | .dfl i => dvs.getD i .non
theorem Vals.getD' {vs : List V} {us : List Value} (r : Vals vs us) (i : Nat) : RelV (vs.getD i .non) (us.getD i .none) := by
  rw [List.getD_eq_getElem?_getD, List.getD_eq_getElem?_getD]
  cases q : vs[i]? with
  | some v =>
    obtain ⟨u, e, r2⟩ := Vals.get r q
    rw [e]; exact r2
  | none =>
    rw [Vals.none_of r q]; exact rfl
theorem pick_vals {vs zs dvs : List V} {us ws ds : List Value} (r1 : Vals vs us) (r2 : Vals zs ws) (r3 : Vals dvs ds) : ∀ sp : List Src, Vals (sp.map (pickVV vs zs dvs)) (sp.map (pickV us ws ds))
  | [] => .nil
  | .pos i :: sp => .cons (Vals.getD' r1 i) (pick_vals r1 r2 r3 sp)
  | .kw i :: sp => .cons (Vals.getD' r2 i) (pick_vals r1 r2 r3 sp)
  | .dfl i :: sp => .cons (Vals.getD' r3 i) (pick_vals r1 r2 r3 sp)
theorem dflA_ok {K : PySem.W.Frag} {L : Lay} {H : Hp} {al : List Addr} {d : D} {v : He.Dv} (h : dflA d v = true) : RepD L H al d (v.v K) := by
  cases d <;> cases v <;> simp only [dflA, Bool.false_eq_true, Bool.and_eq_true, decide_eq_true_eq] at h
  · simp [RepD, He.Dv.v]
  · rw [eq_of_beq h]; simp [RepD, He.Dv.v]
  · rw [eq_of_beq h]; simp [RepD, He.Dv.v]
  · obtain ⟨rfl, hl⟩ := h
    simp only [RepD, He.Dv.v]
    exact ⟨trivial, hl⟩
theorem dflAs_ok {K : PySem.W.Frag} {L : Lay} {H : Hp} {al : List Addr} : ∀ {ds : List D} {vs : List He.Dv}, dflAs ds vs = true → RepDs L H al ds (vs.map (He.Dv.v K))
  | [], [], _ => .nil
  | [], _ :: _, h => by cases h
  | _ :: _, [], h => by cases h
  | d :: ds, v :: vs, h => by
    simp only [dflAs, Bool.and_eq_true] at h
    exact .cons (dflA_ok h.1) (dflAs_ok h.2)
theorem pick_reps {L : Lay} {H : Hp} {al : List Addr} {ws zs : List W} {vs zvs dvs : List V} {ds : List D} (r1 : RepWs L H al ws vs) (r2 : RepWs L H al zs zvs) (r3 : RepDs L H al ds dvs) : ∀ {sp : List Src} {fs : List W}, pickAll ws zs ds sp = some fs → RepWs L H al fs (sp.map (pickVV vs zvs dvs))
  | [], fs, h => by cases h; exact rfl
  | s :: sp, fs, h => by
    simp only [pickAll] at h
    obtain ⟨w, e1, h⟩ := Option.bind_eq_some_iff.mp h
    obtain ⟨r, e2, h⟩ := Option.map_eq_some_iff.mp h
    subst h
    refine .cons ?_ (pick_reps r1 r2 r3 e2)
    cases s with
    | pos i =>
      obtain ⟨v, e, r⟩ := r1.get (show ws[i]? = some w from e1)
      simp only [pickVV, List.getD_eq_getElem?_getD, e]
      exact r
    | kw i =>
      obtain ⟨v, e, r⟩ := r2.get (show zs[i]? = some w from e1)
      simp only [pickVV, List.getD_eq_getElem?_getD, e]
      exact r
    | dfl i =>
      obtain ⟨d, e3, e4⟩ := Option.map_eq_some_iff.mp (show (ds[i]?).map W.d = some w from e1)
      subst e4
      obtain ⟨v, e, r⟩ := r3.get e3
      simp only [pickVV, List.getD_eq_getElem?_getD, e]
      exact r
theorem binds_of {K : PySem.W.Frag} {d : Df} {fd : FuncData} (F : IsDf K d fd) (hp : simpleP d.params = true) {ks : List Str} {m : Nat} (hb : bindOk d.ps ks m d.dfl.length = true) :
    ∃ ds : List Value, Vals (d.dvs K) ds ∧ ∀ (s : Shared) (us ws : List Value), K.In s.heap → us.length = m → ws.length = ks.length → BindsTo s fd ⟨us, ks.zip ws⟩ (d.ps.zip ((srcOf d.ps ks m d.dfl.length).map (pickV us ws ds))) := by
  obtain ⟨oc, od, dV, kV, doc, pm, an, cdv, ct, osl, rfl, lk, -, hD, -⟩ := F.ex
  have hl : (d.dvs K).length = d.dfl.length := by simp [Df.dvs]
  rcases hD with ⟨e, rfl⟩ | ⟨-, T, o, its, k, rfl, lT, oT, rT⟩
  · refine ⟨[], by rw [e]; exact .nil, fun s us ws X h1 h2 => ?_⟩
    have hz : d.dfl.length = 0 := by rw [← hl, e]; rfl
    rw [hz] at hb ⊢
    subst h1
    obtain ⟨k, e1, e2⟩ := bind_gen (fd := PySem.W.fnOf d.name d.qual d.params d.body d.scope .none kV doc pm an cdv ct) (ds := []) hp rfl hb h2
    refine BindsTo.of_looks fun M => ?_
    rw [e1]
    refine PySem.W.Looks.of_pure ?_
    show (pure none >>= k) = _
    rw [pure_bind]
    exact e2 none rfl
  · refine ⟨its, rT, fun s us ws X h1 h2 => ?_⟩
    have hz : its.length = d.dfl.length := by rw [← rT.length, hl]
    rw [← hz] at hb ⊢
    subst h1
    obtain ⟨k, e1, e2⟩ := bind_gen (fd := PySem.W.fnOf d.name d.qual d.params d.body d.scope (.ref T) kV doc pm an cdv ct) (ds := its) hp rfl hb h2
    refine BindsTo.of_looks fun M => ?_
    rw [e1]
    exact looks_items X lT oT (.of_pure (e2 _ (by simp)))
/-- where the arguments of a call come from -/
def spOk (d : Df) (ks : List Str) (m : Nat) (sp : List Src) : Bool := bindOk d.ps ks m d.dfl.length && ((sp == srcOf d.ps ks m d.dfl.length && !sp.isEmpty) || (sp.isEmpty && ks.isEmpty && m == d.ps.length))
theorem getD_self {α : Type} (x : α) (us : List α) : (List.range us.length).map (fun i => us.getD i x) = us := by
  refine List.ext_getElem (by simp) fun i h1 h2 => ?_
  simp at h1
  simp [List.getD_eq_getElem?_getD, h1]
/-- the arguments in the parameters' order, in all three worlds -/
theorem args_of {Y : Txt} {K : PySem.W.Frag} {d : Df} {fd : FuncData} {g : Nat} {f : Fn} (F : IsDf K d fd) (hp : simpleP d.params = true) (hf : Y.T.fns[g]? = some f) (hd : dflAs f.dfl d.dfl = true) {ks : List Str} {m : Nat} {sp : List Src} (hs : spOk d ks m sp = true)
    {L : Lay} {H : Hp} {al : List Addr} {ws zs fs : List W} (hfs : argsW Y.T g sp ws zs = some fs) {vs zvs : List V} {us uz : List Value} (r1 : RepWs L H al ws vs) (r2 : RepWs L H al zs zvs) (v1 : Vals vs us) (v2 : Vals zvs uz) (l1 : us.length = m) (l2 : uz.length = ks.length) :
    ∃ (gs : List V) (gus : List Value), RepWs L H al fs gs ∧ Vals gs gus ∧ gus.length = d.ps.length ∧ ∀ s : Shared, K.In s.heap → BindsTo s fd ⟨us, ks.zip uz⟩ (d.ps.zip gus) := by
  simp only [spOk, Bool.and_eq_true, Bool.or_eq_true, beq_iff_eq, Bool.not_eq_true', List.isEmpty_iff] at hs
  obtain ⟨hb, hs⟩ := hs
  obtain ⟨ds, rd, B⟩ := binds_of F hp hb
  rcases hs with ⟨e, ne⟩ | ⟨⟨e, ek⟩, em⟩
  · have hfs' : pickAll ws zs f.dfl sp = some fs := by
      cases sp with
      | nil => simp at ne
      | cons s r => simpa [argsW, hf] using hfs
    refine ⟨_, _, pick_reps r1 r2 (dflAs_ok (K := K) hd) hfs', pick_vals v1 v2 rd sp, ?_, fun s X => ?_⟩
    · rw [e]; simp [srcOf]
    · rw [e]; exact B s us uz X l1 l2
  · subst e ek em
    have hfs' : ws = fs := by simpa [argsW] using hfs
    subst hfs'
    have z : uz = [] := List.length_eq_zero_iff.mp l2
    subst z
    refine ⟨vs, us, r1, v1, l1, fun s X => ?_⟩
    have := B s us [] X l1 rfl
    have e2 : (srcOf d.ps [] d.ps.length d.dfl.length).map (pickV us [] ds) = us := by
      have : srcOf d.ps [] d.ps.length d.dfl.length = (List.range us.length).map Src.pos := by
        unfold srcOf
        rw [l1]
        refine List.map_congr_left fun i hi => ?_
        rw [if_pos (List.mem_range.mp hi)]
      rw [this, List.map_map]
      exact getD_self _ us
    rw [e2] at this
    exact this
end Ev
end
section
/-! EvD6: expressions: attributes, calls (2). Own work. -/
set_option linter.all false
set_option autoImplicit false
set_option maxRecDepth 100000
set_option maxHeartbeats 1000000
namespace Ev
open PySem PySem.Spec PyProof.Rows L2
section
variable {Y : Txt} {X : Cx} {n : Nat} {c : Sco} {Z : WX} {pins : List (Addr × Obj)} {σ : L2.St} {H : Hp} {s : Shared}
/-! ### defs by number -/
theorem sig_of (h : Y.sig = true) {g : Nat} {d : Df} (hd : Y.defs[g]? = some d) : ∃ f, Y.T.fns[g]? = some f ∧ simpleP d.params = true ∧ dflAs f.dfl d.dfl = true ∧ f.np = d.ps.length := by
  simp only [Txt.sig, Bool.and_eq_true, decide_eq_true_eq, List.all_eq_true, beq_iff_eq] at h
  obtain ⟨⟨hl, ha⟩, -⟩ := h
  have hg : g < Y.T.fns.length := by rw [hl]; exact (List.getElem?_eq_some_iff.mp hd).1
  have m : (d, Y.T.fns[g]) ∈ Y.defs.zip Y.T.fns := by
    refine List.mem_of_getElem? (i := g) ?_
    rw [List.getElem?_zip_eq_some]
    exact ⟨hd, List.getElem?_eq_getElem hg⟩
  exact ⟨_, List.getElem?_eq_getElem hg, (ha _ m).1.1, (ha _ m).1.2, (ha _ m).2⟩
theorem prop_of (h : Y.sig = true) {k : Cl} (hk : k ∈ Y.T.cls) {f g : Nat} (l : k.ats.lookup f = some (.prop g)) {d : Df} (hd : Y.defs[g]? = some d) : srcNeed d 1 = true := by
  simp only [Txt.sig, Bool.and_eq_true, List.all_eq_true] at h
  have := (h.2 k hk).1.1.1 _ (lookup_mem l)
  simpa [hd] using this
theorem own_of (h : Y.sig = true) {k : Cl} (hk : k ∈ Y.T.cls) : needO Y 2 k.eqf = true ∧ needO Y 1 k.reprf = true ∧ needO Y 1 k.strf = true := by
  simp only [Txt.sig, Bool.and_eq_true, List.all_eq_true] at h
  exact ⟨(h.2 k hk).1.1.2, (h.2 k hk).1.2, (h.2 k hk).2⟩
/-- only defs of the text run -/
theorem call_def (h : Y.sig = true) {g : Nat} {ws : List W} {S : Store} (hb : callD Y.T n g ws S ≠ .bad) : ∃ d, Y.defs[g]? = some d := by
  cases n with
  | zero => exact absurd rfl hb
  | succ m =>
    cases q : Y.T.fns[g]? with
    | none => exact absurd (by show (match Y.T.fns[g]? with | some f => _ | none => R.bad) = _; rw [q]) hb
    | some f =>
      have hg := (List.getElem?_eq_some_iff.mp q).1
      simp only [Txt.sig, Bool.and_eq_true, decide_eq_true_eq] at h
      rw [h.1.1] at hg
      exact ⟨_, List.getElem?_eq_getElem hg⟩
theorem Runs.nb {α β : Type} {L : Lay} {m : Nat} {al : List Addr} {Rp : Hp → List Addr → α → β → Prop} {k : R α} {Q : β → Hp → Prop} {E : XK} (h : Runs L m H al Rp k Q E) : k ≠ .bad := fun e => by
  rw [e] at h; exact h
/-- an instance stands there -/
theorem ins_at {L : Lay} {S : Store} {al : List Addr} {w : W} {u : V} {cc : Nat} (rs : RelS L H S al) (r : RepW L H al w u) (e : clsOf S w = some cc) : ∃ a dx fs, u = .ref a ∧ H a = some (.ins (L.cls cc) dx fs) := by
  cases w with
  | d x =>
    cases x with
    | ins c' vs =>
      cases e
      obtain ⟨a, dx, fs, e1, e2, -⟩ := (show RepD L H al (.ins cc vs) u from r)
      exact ⟨a, dx, fs, e1, e2⟩
    | _ => cases e
  | loc m =>
    obtain ⟨a, e1, e2⟩ := r
    simp only [clsOf] at e
    split at e
    · rename_i c' fs q
      cases e
      obtain ⟨dx, fvs, e3, -⟩ := rs.obj m a _ e1 q
      exact ⟨a, dx, fvs, e2, e3⟩
    · cases e
theorem cls_get (G : Good Y X n c Z) {cc : Nat} {k : Cl} (e : Y.T.cls[cc]? = some k) : ∃ x, ClsF Y X.K X.mg ((Y.lay X.K X.w).cls cc) x k := by
  have hc : cc < Y.cn.length := by rw [(stat_of G.stat).cn]; exact (List.getElem?_eq_some_iff.mp e).1
  exact ⟨_, G.lnk.cls e (List.getElem?_eq_getElem hc)⟩

/-! ### attributes -/
theorem prop_g {C p g a dx : Addr} {fs : List (Str × V)} {f : Str} {k : Nat} {fd : FuncData} {ps : List Str} {sp : Sp} {Q : VK} {b : Bool} {E' : Value → Shared → Prop} {us : List Value} {vs : List V} (I : Inv X pins σ H s) (ea : H a = some (.ins C dx fs)) (cl : Cls X.K C)
    (hp : PropOf X.K C f p g) (F : FnG X.prog X.w X.K X.mg X.base k g fd ps sp) (hr : Room (k + 1) X.A) (gd : X.A.guards = some []) (hl : us.length = ps.length) (hb : ∀ s' : Shared, X.K.In s'.heap → BindsTo s' fd ⟨[.ref a], []⟩ (ps.zip us)) (rv : Vals vs us)
    (h : sp vs H Q fun _ _ _ => False) : wpAny (model X.prog X.w) X.A (getAttr (.ref a) f b) (EP X pins σ Q) E' s := by
  obtain ⟨mA, O, -⟩ := ins_get I.hok ea
  obtain ⟨od, J, -⟩ := O.look
  obtain ⟨rest, hrec⟩ := hp.rec_
  have pg := PySem.W.plainGet_of (cl.get f)
  have hc : (PySem.W.clsIn X.K C).isSome = true := by
    obtain ⟨cd, e, -⟩ := PySem.W.any_some cl.hd
    rw [e]; rfl
  have found := PySem.W.findObj_data (od := od) hc hp.at_ hp.get hp.tak
  have J1 := I.tok (s.toks + 1)
  have run := F.run X.A.in1 X.stack { s with toks := s.toks + 1 } H _ us vs Q (fun _ _ _ => False) hr.in1 gd J1.env0.in1 hl (hb _ J1.kIn) rv h
  refine PySem.W.get_bind I.kIn J pg.1 found pg.2 (wpAny_call (PySem.W.prop_get (s := { s with toks := s.toks + 1 }) I.kIn hrec (codeAny_mono run ?_)))
  intro r s' hq
  cases r with
  | error er =>
    obtain ⟨_, _, _, _, _, _, _, _, _, _, _, _, z⟩ := hq
    exact z.elim
  | ok fl =>
    cases fl with
    | ret u =>
      obtain ⟨v, H', I3, rv, q3⟩ := J1.after hq
      show wpAny _ _ (handedOut u) _ _ _
      rw [PySem.W.handedOut_of (handed_of rv)]
      exact wpAny_pure ⟨v, H', I3, rv, q3⟩
    | next => exact hq.elim
    | brk => exact hq.elim
    | cont => exact hq.elim
theorem srcNeed_sp {d : Df} {m : Nat} (h : srcNeed d m = true) : spOk d [] m [] = true := by
  simp only [srcNeed, Bool.and_eq_true] at h
  simp [spOk, h.1]
  exact eq_of_beq h.2
theorem att_g (G : Good Y X n c Z) (I : Inv X pins σ H s) {S : Store} {al : List Addr} {w : W} {u : V} {uv : Value} {f : Nat} {Q : VK} (rs : RelS (Y.lay X.K X.w) H S al) (rw_ : RepW (Y.lay X.K X.w) H al w u) (ru : RelV u uv)
    (h : Runs (Y.lay X.K X.w) al.length H al (RepW (Y.lay X.K X.w)) (attR Y.T (callD Y.T n) w f S) Q (AtX Z σ)) : wpAny (model X.prog X.w) X.A (getAttr uv (Y.an.getD f "") true) (EP X pins σ Q) X.xe s := by
  have st := stat_of G.stat
  unfold attR at h
  cases ec : clsOf S w with
  | none => rw [ec] at h; exact h.elim
  | some cc =>
    obtain ⟨a, dx, fs, rfl, ea⟩ := ins_at rs rw_ ec
    cases ru
    rw [ec] at h
    simp only at h
    cases ek : Y.T.cls[cc]? with
    | none => rw [ek] at h; exact h.elim
    | some k =>
      have km := List.mem_of_getElem? ek
      obtain ⟨x, F⟩ := cls_get G ek
      rw [ek, Option.bind_some] at h
      cases el : k.ats.lookup f with
      | none => rw [el] at h; exact h.elim
      | some at_ =>
        rw [el] at h
        have inj : ∀ j, (Y.lay X.K X.w).nm f = (Y.lay X.K X.w).nm j → f = j := fun j e => nm_inj st (st.at_ k km f at_ el) e
        cases at_ with
        | prop g =>
          simp only at h
          obtain ⟨d, hd⟩ := call_def G.sig (n := n) (g := g) (ws := [w]) (S := S) (fun e => by rw [e] at h; exact h)
          obtain ⟨p, hp⟩ := F.prop f g el
          rw [Txt.ad_of hd] at hp
          obtain ⟨fd, hF⟩ := G.lnk.def_ hd
          obtain ⟨fn, hfn, h1, h2, -⟩ := sig_of G.sig hd
          obtain ⟨gs, gus, r1, r2, r3, r4⟩ := args_of (K := X.K) (g := g) (m := 1) (ks := []) (sp := []) (ws := [w]) (zs := []) (fs := [w]) (us := [Value.ref a]) (uz := []) hF h1 hfn h2 (srcNeed_sp (prop_of G.sig km el hd)) rfl (.cons rw_ .nil) .nil (.cons rfl .nil) .nil rfl rfl
          refine prop_g I ea F.cls hp (G.fns g d hd fd hF) (G.room.mono (by omega)) G.gd r3 r4 r2 ⟨[w], S, al, rs, r1, h.noex _⟩
        | fld j =>
          have af := st.af k km f j el
          cases w with
          | d y =>
            cases y with
            | ins c' xs =>
              cases ec
              obtain ⟨x', ex, h2⟩ := h.of_bind
              obtain ⟨a', dx', fs', e1, e2, e3, e4, e5⟩ := (show RepD (Y.lay X.K X.w) H al (.ins cc xs) (.ref a) from rw_)
              cases e1
              have e4' : fs'.map (·.1) = k.flds.map (Y.lay X.K X.w).nm := by
                rw [e4]
                show (match Y.T.cls[cc]? with | some k => k.flds | none => []).map _ = _
                rw [ek]
              obtain ⟨v, l, r⟩ := look_ix inj e4' (st.fn k km) e5 af ex
              exact getattr_ok I e2 F.cls (F.fld f j el) l fun u' s' I' rr => ⟨v, H, I', rr, h2.here (Nat.le_refl _) rs r⟩
            | _ => cases ec
          | loc m =>
            simp only at h
            split at h
            · rename_i c' fs' q
              obtain ⟨x', ex, h2⟩ := h.of_bind
              have ecc : c' = cc := by simpa [clsOf, q] using ec
              subst ecc
              obtain ⟨a', e1, e2⟩ := rw_
              cases e2
              obtain ⟨dx', fvs, e3, e4, e5⟩ := rs.obj m a _ e1 q
              obtain ⟨v, l, r⟩ := look_fld inj e4 e5 ex
              exact getattr_ok I e3 F.cls (F.fld f j el) l fun u' s' I' rr => ⟨v, H, I', rr, h2.here (Nat.le_refl _) rs r⟩
            · exact h.elim
/-- what is no super() -/
def baseOk : Expr → Bool
  | .Call (.Name x _) [] [] _ => x != ("super" : Str)
  | _ => true
theorem base_of {o : Expr} (h : baseOk o = true) (m : Str) (env : PySem.Env) : attributeBase o m env (eval o env) = eval o env := by
  by_cases q : ∃ x p p2, o = .Call (.Name x p) [] [] p2
  · obtain ⟨x, p, p2, rfl⟩ := q
    exact abase_call h
  · unfold attributeBase
    split
    · rename_i id p p2
      exact absurd ⟨_, _, _, rfl⟩ q
    · rfl
variable {pos apos : Pos}
theorem s_att (G : Good Y X n c Z) {a : Ex} {ea : Expr} {f : Nat} {nm : Str} (ha : PE X ea (tE Y X n Z a)) (hf : Y.an[f]? = some nm) (hb : baseOk ea = true) : PE X (.Attribute ea nm pos) (tE Y X n Z (.att a f)) := by
  refine ⟨fun pins s σ H Q I h => ?_⟩
  obtain ⟨env, S, al, re, rs, h⟩ := h
  have e : nm = Y.an.getD f "" := by rw [List.getD_eq_getElem?_getD, hf]; rfl
  rw [e]
  refine attr_of (base_of hb _ _) (thn (ha.run pins s σ H (fun u H1 => ∃ w S1 al1, RelS (Y.lay X.K X.w) H1 S1 al1 ∧ RepW (Y.lay X.K X.w) H1 al1 w u ∧ Runs (Y.lay X.K X.w) al1.length H1 al1 (RepW (Y.lay X.K X.w)) (attR Y.T (callD Y.T n) w f S1) Q (AtX Z σ)) I ?_) ?_)
  · exact ⟨env, S, al, re, rs, Runs.bind h fun w S1 u H1 al1 _ st rs1 rw_ h1 => ⟨w, S1, al1, rs1, rw_, h1⟩⟩
  · rintro uv s1 ⟨u, H1, I1, ru, w, S1, al1, rs1, rw_, h1⟩
    exact att_g G I1 rs1 rw_ ru h1
end
end Ev
end
section
/-! EvD7: calls of defs, classes, methods. Own work. -/
set_option linter.all false
set_option autoImplicit false
set_option maxRecDepth 100000
set_option maxHeartbeats 1000000
namespace Ev
open PySem PySem.Spec PyProof.Rows L2
section
variable {Y : Txt} {X : Cx} {n : Nat} {c : Sco} {Z : WX} {pos apos p : Pos} {args : List Expr} {kws : List Keyword} {es ks : Exs} {sp : List Src}
/-- the arguments of a call, then the call -/
def tArgs (Y : Txt) (X : Cx) (n : Nat) (Z : WX) (es ks : Exs) (k : List V → List V → Hp → Prop) : L2.St → Hp → Prop := fun σ H => tEs Y X n Z es σ H fun vs H1 => tEs Y X n Z ks σ H1 fun zs H2 => k vs zs H2
theorem cw_any {f : Value} {first : List Value} (kp : PySem.W.keepIn X.K f = true) (ha : PA X args (tEs Y X n Z es)) (hk : PK X kws (tEs Y X n Z ks)) (h0 : args = [] → es = .nil) (h1 : args.all notStar = true) (h2 : kwAll kws = true)
    {pins : List (Addr × Obj)} {σ : L2.St} {H : Hp} {s : Shared} (I : Inv X pins σ H s) {Q : Value → Shared → Prop}
    (h : tArgs Y X n Z es ks (fun vs zs H2 => ∀ s2 us uz, Inv X pins σ H2 s2 → Vals vs us → Vals zs uz → wpAny (model X.prog X.w) X.A (call f (first ++ us) ((kwN kws).zip uz)) Q X.xe s2) σ H) :
    wpAny (model X.prog X.w) X.A (callWith pos f first (backTo pos (starEach args X.env)) (backToKw pos (keywordEach kws X.env))) Q X.xe s := by
  obtain ⟨k1, k2, k3⟩ := kw_facts (pos := pos) (env := X.env) h2
  have pl : ((backTo pos (starEach args X.env)).any (·.1) || (backToKw pos (keywordEach kws X.env)).any (·.1.isNone)) = false := by rw [star_any h1, k3]; rfl
  cases args with
  | nil =>
    rw [h0 rfl] at h
    obtain ⟨env, S, al, re, rs, h⟩ := h
    have h' := Runs.here (show Runs (Y.lay X.K X.w) _ H al (RepWs (Y.lay X.K X.w)) (.ok [] S) _ _ from h) (Nat.le_refl _) rs (b := []) rfl
    refine PySem.W.callWith_KW0 (h₀ := X.base) I.ok.mod.kin kp k1 (thn (hk.run pos pins s σ H _ I h') fun uz s2 ⟨zs, H2, I2, rz, q⟩ => ⟨I2.kIn, ?_⟩) pl
    rw [k2]
    exact q s2 [] uz I2 .nil rz
  | cons e es' =>
    simp only [List.all_cons, Bool.and_eq_true] at h1
    refine PySem.W.callWith_KW (h₀ := X.base) I.ok.mod.kin kp k1 (thn (ha.run pos pins s σ H _ I h) fun us s1 ⟨vs, H1, I1, r, q⟩ => ?_) pl (star_cons h1.1)
    refine thn (hk.run pos pins s1 σ H1 _ I1 q) fun uz s2 ⟨zs, H2, I2, rz, q2⟩ => ⟨I2.kIn, ?_⟩
    rw [k2]
    exact q2 s2 us uz I2 r rz
/-- the run of the arguments, taken apart -/
theorem args_run {σ : L2.St} {H : Hp} {env : Env} {S : Store} {al : List Addr} {Q : VK} {f : List W → List W → Store → R W} {k : List V → List V → Hp → Prop} (re : RelE (Y.lay X.K X.w) H al env σ) (rs : RelS (Y.lay X.K X.w) H S al)
    (h : Runs (Y.lay X.K X.w) al.length H al (RepW (Y.lay X.K X.w)) ((evEs Y.T (callD Y.T n) es env S).bind fun ws S1 => (evEs Y.T (callD Y.T n) ks env S1).bind fun zs S2 => f ws zs S2) Q (AtX Z σ))
    (hk : ∀ ws zs S2 vs us H2 al2, ws.length = lenEs es → zs.length = lenEs ks → Step al.length H al H2 al2 → RelS (Y.lay X.K X.w) H2 S2 al2 → RepWs (Y.lay X.K X.w) H2 al2 ws vs → RepWs (Y.lay X.K X.w) H2 al2 zs us → Runs (Y.lay X.K X.w) al2.length H2 al2 (RepW (Y.lay X.K X.w)) (f ws zs S2) Q (AtX Z σ) → k vs us H2) :
    tArgs Y X n Z es ks k σ H :=
  ⟨env, S, al, re, rs, h.bind fun ws S1 vs H1 al1 e1 st rs1 r1 h1 => ⟨env, S1, al1, re.step st (Nat.le_refl _), rs1, h1.bind fun zs S2 us H2 al2 e2 st2 rs2 r2 h2 =>
    hk ws zs S2 vs us H2 al2 (evEs_len e1) (evEs_len e2) (st.trans (st2.mono st.le')) rs2 (r1.step st2 (Nat.le_refl _)) r2 h2⟩⟩
theorem s_call (G : Good Y X n c Z) {g : Nat} {d : Df} {x : Str} (hd : Y.defs[g]? = some d) (he : d.at_ = .glo x) (hg : glB c.sc x = true) (ha : PA X args (tEs Y X n Z es)) (hk : PK X kws (tEs Y X n Z ks)) (h0 : args = [] → es = .nil) (h1 : args.all notStar = true)
    (h2 : kwAll kws = true) (h3 : (kwN kws).length = lenEs ks) (hs : spOk d (kwN kws) (lenEs es) sp = true) : PE X (.Call (.Name x p) args kws pos) (tE Y X n Z (.call g es ks sp)) := by
  obtain ⟨g1, g2, -⟩ := gl_of G hg
  obtain ⟨fd, F⟩ := G.lnk.def_ hd
  obtain ⟨fn, hfn, q1, q2, -⟩ := sig_of G.sig hd
  refine ⟨fun pins s σ H Q I h => ?_⟩
  obtain ⟨env, S, al, re, rs, h⟩ := h
  refine wpAny_Call_Name_kw (ld_glob I g1 (G.lnk.fnGlo hd he) (cw_any (f := .ref (pAd X.K d.at_)) (first := []) F.kp ha hk h0 h1 h2 I ?_) g2)
  refine args_run re rs (show Runs (Y.lay X.K X.w) _ H al (RepW (Y.lay X.K X.w)) ((evEs Y.T (callD Y.T n) es env S).bind fun ws S1 => (evEs Y.T (callD Y.T n) ks env S1).bind fun zs S2 => (R.of (argsW Y.T g sp ws zs) S2).bind fun fs S3 => callD Y.T n g fs S3) Q _ from h) ?_
  intro ws zs S2 vs us H2 al2 l1 l2 st rs2 r1 r2 hr s2 uv uz I2 v1 v2
  obtain ⟨fs, efs, hr⟩ := hr.of_bind
  obtain ⟨gs, gus, a1, a2, a3, a4⟩ := args_of F q1 hfn q2 hs efs r1 r2 v1 v2 (by rw [← v1.length, ← r1.length, l1]) (by rw [← v2.length, ← r2.length, l2, h3])
  exact run_g (G.fns g d hd fd F) (G.room.mono (by omega)) G.gd G.tk I2 (a4 s2 I2.kIn) a3 a2 ⟨fs, S2, al2, rs2, a1, hr⟩
theorem s_make (G : Good Y X n c Z) {cc : Nat} {k : Cl} {d : Df} {x : Str} (ek : Y.T.cls[cc]? = some k) (ex : Y.cn[cc]? = some x) (hd : Y.defs[k.init]? = some d) (hg : glB c.sc x = true) (ha : PA X args (tEs Y X n Z es)) (hk : PK X kws (tEs Y X n Z ks)) (h0 : args = [] → es = .nil)
    (h1 : args.all notStar = true) (h2 : kwAll kws = true) (h3 : (kwN kws).length = lenEs ks) (hs : spOk d (kwN kws) (lenEs es + 1) sp = true) : PE X (.Call (.Name x p) args kws pos) (tE Y X n Z (.make cc es ks sp)) := by
  obtain ⟨g1, g2, -⟩ := gl_of G hg
  obtain ⟨fd, F⟩ := G.lnk.def_ hd
  obtain ⟨fn, hfn, q1, q2, -⟩ := sig_of G.sig hd
  have CF := G.lnk.cls ek ex
  have M := CF.make
  rw [Txt.ad_of hd] at M
  refine ⟨fun pins s σ H Q I h => ?_⟩
  obtain ⟨env, S, al, re, rs, h⟩ := h
  refine wpAny_Call_Name_kw (ld_glob I g1 CF.glo (cw_any (first := []) M.kp ha hk h0 h1 h2 I ?_) g2)
  refine args_run re rs (show Runs (Y.lay X.K X.w) _ H al (RepW (Y.lay X.K X.w)) ((evEs Y.T (callD Y.T n) es env S).bind fun ws S1 => (evEs Y.T (callD Y.T n) ks env S1).bind fun zs S2 => match Y.T.cls[cc]? with
    | some k => (R.of (argsW Y.T k.init sp (.loc S2.length :: ws) zs) S2).bind fun fs S3 => (callD Y.T n k.init fs (S3 ++ [.ins cc []])).bind fun r S4 => match r with
      | .d .non => .ok (.loc S3.length) S4
      | _ => .bad
    | none => .bad) Q _ from h) ?_
  intro ws zs S2 vs us H2 al2 l1 l2 st rs2 r1 r2 hr s2 uv uz I2 v1 v2
  rw [ek] at hr
  obtain ⟨fs, efs, hr⟩ := hr.of_bind
  refine run_mk M (G.fns k.init d hd fd F) (G.room.mono (by omega)) G.gd G.tk I2 fun a dx na nd ne => ?_
  have kk : ∀ b u, H2 b = some u → upd (upd H2 dx (.own a)) a (.ins ((Y.lay X.K X.w).cls cc) dx []) b = some u := fun b u e => by
    rw [upd_ne (ne_of_none e na), upd_ne (ne_of_none e nd)]; exact e
  have stp : Step al2.length H2 al2 (upd (upd H2 dx (.own a)) a (.ins ((Y.lay X.K X.w).cls cc) dx [])) (al2 ++ [a]) := Step.push (Nat.le_refl _) na kk
  have rs3 : RelS (Y.lay X.K X.w) (upd (upd H2 dx (.own a)) a (.ins ((Y.lay X.K X.w).cls cc) dx [])) (S2 ++ [.ins cc []]) (al2 ++ [a]) := rs2.push (o := .ins ((Y.lay X.K X.w).cls cc) dx []) na kk ⟨dx, [], upd_same, rfl, .nil⟩
  have self : RepW (Y.lay X.K X.w) (upd (upd H2 dx (.own a)) a (.ins ((Y.lay X.K X.w).cls cc) dx [])) (al2 ++ [a]) (.loc S2.length) (.ref a) := ⟨a, by rw [← rs2.len]; simp, rfl⟩
  obtain ⟨gs, gus, a1, a2, a3, a4⟩ := args_of F q1 hfn q2 hs efs (.cons self (r1.step stp (Nat.le_refl _))) (r2.step stp (Nat.le_refl _)) (show Vals (.ref a :: vs) (Value.ref a :: uv) from .cons rfl v1) v2 (by rw [List.length_cons, ← v1.length, ← r1.length, l1]) (by rw [← v2.length, ← r2.length, l2, h3])
  refine ⟨gus, gs, a3, fun s' X' => a4 s' X', a2, fs, S2 ++ [.ins cc []], al2 ++ [a], rs3, a1, ?_⟩
  refine Runs.bind (hr.on stp (n1 := (al2 ++ [a]).length) (by simp)) fun r S4 v H4 al4 _ st4 rs4 rv h4 => ?_
  cases r with
  | loc m => exact h4.elim
  | d z =>
    cases z with
    | non =>
      have ev : v = .non := by simpa only [RepW, RepD] using rv
      refine ⟨ev, h4.here (Nat.le_refl _) rs4 ?_⟩
      refine ⟨a, ?_, rfl⟩
      rw [st4.get (by rw [← rs2.len]; simp), ← rs2.len]
      simp
    | _ => exact h4.elim
/-- a method's call, written so that the model reads it as one -/
def mcOk (args : List Expr) (kws : List Keyword) (apos pos : Pos) : Bool := decide (args.length + kws.length + 1 < 30) && (apos.endLine == pos.line)
theorem mc_form {env : PySem.Env} (h : mcOk args kws apos pos = true) (h1 : args.all notStar = true) (h2 : kwAll kws = true) : methodCallForm (args.length + kws.length) (backTo pos (starEach args env)) (backToKw pos (keywordEach kws env)) = true := by
  simp only [mcOk, Bool.and_eq_true, decide_eq_true_eq] at h
  unfold methodCallForm
  have e1 : (backTo pos (starEach args env)).all (fun x => !x.1) = true := by
    have := star_any (pos := pos) (env := env) h1
    rw [List.any_eq_false] at this
    exact List.all_eq_true.mpr fun q hq => by simpa using this q hq
  rw [e1, (kw_facts h2).1]
  have : args.length + kws.length + (if (backToKw pos (keywordEach kws env)).isEmpty = true then 0 else 1) < 30 := by
    split <;> omega
  simpa using this
theorem s_meth (G : Good Y X n c Z) {a : Ex} {ea : Expr} {m : Nat} {nm : Str} (ho : PE X ea (tE Y X n Z a)) (hm : Y.an[m]? = some nm) (hb : baseOk ea = true) (hmc : mcOk args kws apos pos = true) (ha : PA X args (tEs Y X n Z es)) (hk : PK X kws (tEs Y X n Z ks))
    (h0 : args = [] → es = .nil) (h1 : args.all notStar = true) (h2 : kwAll kws = true) (h3 : (kwN kws).length = lenEs ks)
    (hs : ∀ k ∈ Y.T.cls, ∀ g, k.ms.lookup m = some g → ∀ d, Y.defs[g]? = some d → spOk d (kwN kws) (lenEs es + 1) sp = true) :
    PE X (.Call (.Attribute ea nm apos) args kws pos) (tE Y X n Z (.meth a m es ks sp)) := by
  have st := stat_of G.stat
  have e : nm = Y.an.getD m "" := by rw [List.getD_eq_getElem?_getD, hm]; rfl
  have hline : (apos.endLine == pos.line) = true := by
    simp only [mcOk, Bool.and_eq_true] at hmc
    exact hmc.2
  refine ⟨fun pins s σ H Q I h => ?_⟩
  obtain ⟨env, S, al, re, rs, h⟩ := h
  refine PySem.W.methodCall_KW (pl := plainOf ea X.env) (thn (ho.run pins s σ H (fun u H1 => ∃ w S1 al1, RelE (Y.lay X.K X.w) H1 al1 env σ ∧ RelS (Y.lay X.K X.w) H1 S1 al1 ∧ RepW (Y.lay X.K X.w) H1 al1 w u ∧ Runs (Y.lay X.K X.w) al1.length H1 al1 (RepW (Y.lay X.K X.w)) (match methOf Y.T S1 w m with
      | some g => (evEs Y.T (callD Y.T n) es env S1).bind fun ws S2 => (evEs Y.T (callD Y.T n) ks env S2).bind fun zs S3 => (R.of (argsW Y.T g sp (w :: ws) zs) S3).bind fun fs S4 => callD Y.T n g fs S4
      | none => .bad) Q (AtX Z σ)) I ?_) ?_) (mcall_of (base_of hb _ _) fun ov => mcall_line (mc_form hmc h1 h2) hline)
  · exact ⟨env, S, al, re, rs, Runs.bind h fun w S1 u H1 al1 _ st rs1 rw_ h1 => ⟨w, S1, al1, re.step st (Nat.le_refl _), rs1, rw_, h1⟩⟩
  · rintro uv s1 ⟨u, H1, I1, ru, w, S1, al1, re1, rs1, rw_, h⟩
    cases eg : methOf Y.T S1 w m with
    | none => rw [eg] at h; exact h.elim
    | some g =>
      rw [eg] at h
      simp only at h
      unfold methOf at eg
      obtain ⟨cc, ec, eg⟩ := Option.bind_eq_some_iff.mp eg
      obtain ⟨k, ek, eg⟩ := Option.bind_eq_some_iff.mp eg
      obtain ⟨no, eg⟩ := (Option.ite_none_right_eq_some).mp eg
      have km := List.mem_of_getElem? ek
      obtain ⟨x, CF⟩ := cls_get G ek
      obtain ⟨hlt, hnf, hgd⟩ := st.ms k km m g eg
      have inj : ∀ j, (Y.lay X.K X.w).nm m = (Y.lay X.K X.w).nm j → m = j := fun j e => nm_inj st hlt e
      -- the instance and its own attributes
      have there : ∃ a dx fs, u = .ref a ∧ H1 a = some (.ins ((Y.lay X.K X.w).cls cc) dx fs) ∧ fs.lookup ((Y.lay X.K X.w).nm m) = none := by
        cases w with
        | d y =>
          cases y with
          | ins c' xs =>
            cases ec
            obtain ⟨a', dx', fs', e1, e2, e3, e4, e5⟩ := (show RepD (Y.lay X.K X.w) H1 al1 (.ins cc xs) u from rw_)
            have e4' : fs'.map (·.1) = k.flds.map (Y.lay X.K X.w).nm := by
              rw [e4]
              show (match Y.T.cls[cc]? with | some k => k.flds | none => []).map _ = _
              rw [ek]
            exact ⟨a', dx', fs', e1, e2, look_none inj e4' hnf⟩
          | _ => cases ec
        | loc i =>
          obtain ⟨a', e1, e2⟩ := rw_
          simp only [clsOf] at ec
          split at ec
          · rename_i c' fs' q
            cases ec
            obtain ⟨dx', fvs, e3, e4, e5⟩ := rs1.obj i a' _ e1 q
            refine ⟨a', dx', fvs, e2, e3, ?_⟩
            have nof : m ∉ fs'.map (·.1) := by
              simp only [noOwn, q, Option.isNone_iff_eq_none] at no
              intro hm
              obtain ⟨z, hz, ez⟩ := List.mem_map.mp hm
              exact absurd (List.lookup_eq_none_iff.mp no z hz) (by simp [ez])
            refine look_none inj (fs := fs'.map (·.1)) ?_ nof
            rw [e4, List.map_map]; rfl
          · cases ec
      obtain ⟨a', dx, fs, rfl, ea', l⟩ := there
      cases ru
      cases hd : Y.defs[g]? with
      | none => exact absurd hgd (by rw [List.getElem?_eq_none_iff] at hd; omega)
      | some d =>
        have ME := CF.ms m g eg
        rw [Txt.ad_of hd] at ME
        obtain ⟨fd, F⟩ := G.lnk.def_ hd
        obtain ⟨fn, hfn, q1, q2, -⟩ := sig_of G.sig hd
        rw [e]
        refine getmeth_ok I1 ea' CF.cls ME l (cw_any (first := [.ref a']) ME.kp ha hk h0 h1 h2 I1 ?_)
        refine args_run re1 rs1 h ?_
        intro ws zs S2 vs us H2 al2 l1 l2 st2 rs2 r1 r2 hr s2 uv uz I2 v1 v2
        obtain ⟨fs', efs, hr⟩ := hr.of_bind
        obtain ⟨gs, gus, a1, a2, a3, a4⟩ := args_of F q1 hfn q2 (hs k km g eg d hd) efs (.cons (rw_.step st2 (Nat.le_refl _)) r1) r2 (show Vals (.ref a' :: vs) (Value.ref a' :: uv) from .cons rfl v1) v2 (by rw [List.length_cons, ← v1.length, ← r1.length, l1]) (by rw [← v2.length, ← r2.length, l2, h3])
        exact run_g (G.fns g d hd fd F) (G.room.mono (by omega)) G.gd G.tk I2 (a4 s2 I2.kIn) a3 a2 ⟨fs', S2, al2, rs2, a1, hr⟩
end
end Ev
end
section
/-! EvD8: built-ins, methods of texts and lists, f-strings. Own work. -/
set_option linter.all false
set_option autoImplicit false
set_option maxRecDepth 100000
set_option maxHeartbeats 1000000
namespace Ev
open PySem PySem.Spec PyProof.Rows L2
section
variable {Y : Txt} {X : Cx} {n : Nat} {c : Sco} {Z : WX} {pos apos p : Pos} {args : List Expr} {es : Exs}
theorem rts_of {L : Lay} {H : Hp} {al : List Addr} {S : Store} (rs : RelS L H S al) : ∀ {ws : List W} {vs : List V} {ds : List D}, RepWs L H al ws vs → rds S ws = some ds → Paired (RT L H al) ds vs
  | [], _, ds, r, e => by
    cases e
    obtain rfl := r
    exact .nil
  | w :: ws, _, ds, r, e => by
    obtain ⟨v, us, rfl, r1, r2⟩ := r
    simp only [rds] at e
    obtain ⟨x, e1, e⟩ := Option.bind_eq_some_iff.mp e
    obtain ⟨xs, e2, rfl⟩ := Option.map_eq_some_iff.mp e
    exact .cons (r1.rt rs e1) (rts_of rs r2 e2)
theorem biW_eq {T : Tab} {Φ : Phi} {b : Bi} (h1 : b ≠ .repr) (h2 : b ≠ .str) (ws : List W) (S : Store) : biW T Φ b ws S = (R.of ((rds S ws).bind (bi b)) S).bind fun z S => .ok (.d z) S := by
  cases b <;> first | rfl | exact absurd rfl h1 | exact absurd rfl h2
/-- the names of the built-ins, functions and types -/
def biF : Bi → Option (Str × String)
  | .len => some ("len", "len")
  | .abs => some ("abs", "abs")
  | .max2 => some ("max", "max")
  | .min2 => some ("min", "min")
  | .max3 => some ("max", "max")
  | .sum => some ("sum", "sum")
  | .max1 => some ("max", "max")
  | .min1 => some ("min", "min")
  | .any => some ("any", "any")
  | .all => some ("all", "all")
  | .divmod => some ("divmod", "divmod")
  | .repr => some ("repr", "repr")
  | .sorted => some ("sorted", "sorted")
  | _ => none
def biT : Bi → Option (Str × String)
  | .int => some ("int", "int")
  | .str => some ("str", "str")
  | .list => some ("list", "list")
  | .tuple => some ("tuple", "tuple")
  | _ => none
theorem biF_ok (G : Good Y X n c Z) {b : Bi} {x : Str} {id : String} (h : biF b = some (x, id)) : bootBuiltins x = some (.builtin id) ∧ CallR X (.builtin id) (rCl (Y.lay X.K X.w) (bi b)) := by
  have hu := G.room.un
  cases b <;> simp only [biF, reduceCtorEq, Option.some.injEq, Prod.mk.injEq] at h <;> obtain ⟨rfl, rfl⟩ := h
  · exact ⟨by decide +kernel, cl_len lay_K⟩
  · exact ⟨by decide +kernel, cl_abs⟩
  · exact ⟨by decide +kernel, cl_max2 G.calm⟩
  · exact ⟨by decide +kernel, cl_min2 G.calm⟩
  · exact ⟨by decide +kernel, cl_max3 G.calm⟩
  · exact ⟨by decide +kernel, cl_sum G.calm⟩
  · exact ⟨by decide +kernel, cl_max1 G.calm⟩
  · exact ⟨by decide +kernel, cl_min1 G.calm⟩
  · exact ⟨by decide +kernel, cl_any G.calm⟩
  · exact ⟨by decide +kernel, cl_all G.calm⟩
  · exact ⟨by decide +kernel, cl_divmod⟩
  · exact ⟨by decide +kernel, cl_repr lay_K G.gd (by omega)⟩
  · exact ⟨by decide +kernel, cl_sorted lay_K⟩
theorem biT_ok {b : Bi} {x : Str} {id : String} (h : biT b = some (x, id)) : bootBuiltins x = some (.type id) ∧ CallR X (.type id) (rCl (Y.lay X.K X.w) (bi b)) := by
  cases b <;> simp only [biT, reduceCtorEq, Option.some.injEq, Prod.mk.injEq] at h <;> obtain ⟨rfl, rfl⟩ := h
  · exact ⟨by decide +kernel, cl_int⟩
  · exact ⟨by decide +kernel, cl_str⟩
  · exact ⟨by decide +kernel, cl_list lay_K⟩
  · exact ⟨by decide +kernel, cl_tuple lay_K⟩
theorem bi_read (G : Good Y X n c Z) {b : Bi} (n1 : b ≠ .repr) (n2 : b ≠ .str) {σ : L2.St} {H : Hp} {Q : VK} (h : tE Y X n Z (.bi b es) σ H Q) : tCB (rCl (Y.lay X.K X.w) (bi b)) (tEs Y X n Z es) σ H Q := by
  obtain ⟨env, S, al, re, rs, h⟩ := h
  refine ⟨env, S, al, re, rs, Runs.bind h fun ws S1 vs H1 al1 _ st rs1 rws h1 => ?_⟩
  rw [biW_eq n1 n2] at h1
  obtain ⟨z, ez, h2⟩ := h1.of_bind
  obtain ⟨ds, ed, ez⟩ := Option.bind_eq_some_iff.mp ez
  exact ⟨ds, z, S1, al1, rts_of rs1 rws ed, ez, opS_of h2 rs1⟩
theorem s_biF (G : Good Y X n c Z) {b : Bi} (n1 : b ≠ .repr) {x : Str} {id : String} {e : Expr} {as : List Expr} (hb : biF b = some (x, id)) (hx : x ∈ Y.fre) (hg : glB c.sc x = true) (ha : PA X (e :: as) (tEs Y X n Z es)) (hs : (e :: as).all notStar = true) :
    PE X (.Call (.Name x p) (e :: as) [] pos) (tE Y X n Z (.bi b es)) := by
  obtain ⟨g1, g2, g3⟩ := gl_of G hg
  obtain ⟨b1, b2⟩ := biF_ok G hb
  simp only [List.all_cons, Bool.and_eq_true] at hs
  exact PE.imp (pe_callB b2 g1 (G.lnk.free hx) b1 ha g3 g2 (star_cons hs.1) (star_any hs.2)) fun _ _ _ h => bi_read G n1 (fun e => by subst e; simp [biF] at hb) h
theorem s_biT (G : Good Y X n c Z) {b : Bi} (n2 : b ≠ .str) {x : Str} {id : String} {e : Expr} {as : List Expr} (hb : biT b = some (x, id)) (hx : x ∈ Y.fre) (hg : glB c.sc x = true) (ha : PA X (e :: as) (tEs Y X n Z es)) (hs : (e :: as).all notStar = true) :
    PE X (.Call (.Name x p) (e :: as) [] pos) (tE Y X n Z (.bi b es)) := by
  obtain ⟨g1, g2, g3⟩ := gl_of G hg
  obtain ⟨b1, b2⟩ := biT_ok (Y := Y) (X := X) hb
  simp only [List.all_cons, Bool.and_eq_true] at hs
  exact PE.imp (pe_callTy b2 g1 (G.lnk.free hx) b1 ha g3 g2 (star_cons hs.1) (star_any hs.2)) fun _ _ _ h => bi_read G (fun e => by subst e; simp [biT] at hb) n2 h

/-! ### methods of texts -/
def bmN : Bm → Str
  | .join => "join"
  | .count => "count"
  | .lcount => "count"
  | .lindex => "index"
theorem few_of {cpos : Pos} {env : PySem.Env} {e : Expr} {as : List Expr} (h1 : (e :: as).all notStar = true) (h2 : (e :: as).length < 29) :
    ((backTo cpos (starEach (e :: as) env)).all (fun x => !x.1) && (backToKw cpos (keywordEach [] env)).all (fun x => x.1.isSome) && decide ((e :: as).length + ([] : List Keyword).length + (if ([] : List Keyword).isEmpty then 0 else 1) < 30)) = true := by
  have e1 : (backTo cpos (starEach (e :: as) env)).all (fun x => !x.1) = true := by
    have := star_any (pos := cpos) (env := env) h1
    rw [List.any_eq_false] at this
    exact List.all_eq_true.mpr fun q hq => by simpa using this q hq
  rw [e1]
  show (true && true && decide ((e :: as).length + 0 + 0 < 30)) = true
  rw [decide_eq_true (by omega)]
  rfl
theorem s_bmt (G : Good Y X n c Z) {m : Bm} (hm : m ≠ .lcount ∧ m ≠ .lindex) {a : Ex} {ea e : Expr} {as : List Expr} (ho : PE X ea (tE Y X n Z a)) (ha : PA X (e :: as) (tEs Y X n Z es)) (hb : baseOk ea = true) (hs : (e :: as).all notStar = true) (hf : (e :: as).length < 29) (hl : (apos.endLine == pos.line) = true) :
    PE X (.Call (.Attribute ea (bmN m) apos) (e :: as) [] pos) (tE Y X n Z (.bm m a es)) := by
  have hs' := hs
  simp only [List.all_cons, Bool.and_eq_true] at hs'
  have key : PE X (.Call (.Attribute ea (bmN m) apos) (e :: as) [] pos) (tBM X.K "str" (rMt (Y.lay X.K X.w) (bm m)) (tE Y X n Z a) (tEs Y X n Z es)) := by
    cases m with
    | join => exact pe_bm F.plainAttrs_str F.slot_str_join F.type_str_join (mt_joinD lay_K) ho ha (base_of hb _ _) (few_of hs hf) hl (star_cons hs'.1) (star_any hs'.2)
    | lcount => exact absurd rfl hm.1
    | lindex => exact absurd rfl hm.2
    | count => exact pe_bm F.plainAttrs_str F.slot_str_count F.type_str_count mt_countD ho ha (base_of hb _ _) (few_of hs hf) hl (star_cons hs'.1) (star_any hs'.2)
  refine PE.imp key ?_
  have hk : ∀ x, bmK m x = isTx x := fun x => by cases m <;> first | rfl | exact absurd rfl hm.1 | exact absurd rfl hm.2
  rintro σ H Q ⟨env, S, al, re, rs, h⟩
  refine ⟨env, S, al, re, rs, Runs.bind h fun x S1 u H1 al1 _ st rs1 rx h1 => ?_⟩
  rw [hk] at h1
  cases x with
  | loc _ => exact h1.elim
  | d y =>
    cases y with
    | str s =>
      have eu : u = .str (tx s) := by
        simp only [RepW, RepD] at rx
        exact rx.1
      refine ⟨by rw [eu]; rfl, env, S1, al1, re.step st (Nat.le_refl _), rs1, Runs.bind (show Runs (Y.lay X.K X.w) al1.length H1 al1 (RepW (Y.lay X.K X.w)) ((evEs Y.T (callD Y.T n) es env S1).bind fun ws S2 => match rd S2 (.d (.str s)), rds S2 ws with
        | some u, some vs => (R.of (bm m u vs) S2).bind fun z S => .ok (.d z) S
        | _, _ => .bad) Q _ from h1) fun ws S2 vs H2 al2 _ st2 rs2 rws h2 => ?_⟩
      split at h2
      · rename_i d ds e1 e2
        obtain ⟨z, ez, h3⟩ := h2.of_bind
        exact ⟨d, ds, z, S2, al2, (rx.step st2 (Nat.le_refl _)).rt rs2 e1, rts_of rs2 rws e2, ez, opS_of h3 rs2⟩
      · exact h2.elim
    | _ => exact h1.elim

theorem s_bml (G : Good Y X n c Z) {m : Bm} (hm : m = .lcount ∨ m = .lindex) {a : Ex} {ea e : Expr} {as : List Expr} (ho : PE X ea (tE Y X n Z a)) (ha : PA X (e :: as) (tEs Y X n Z es)) (hb : baseOk ea = true) (hs : (e :: as).all notStar = true) (hf : (e :: as).length < 29) (hl : (apos.endLine == pos.line) = true) :
    PE X (.Call (.Attribute ea (bmN m) apos) (e :: as) [] pos) (tE Y X n Z (.bm m a es)) := by
  have hs' := hs
  have hu := G.room.un
  simp only [List.all_cons, Bool.and_eq_true] at hs'
  have key : PE X (.Call (.Attribute ea (bmN m) apos) (e :: as) [] pos) (tBM X.K "list" (rMt (Y.lay X.K X.w) (bm m)) (tE Y X n Z a) (tEs Y X n Z es)) := by
    rcases hm with rfl | rfl
    · exact pe_bm F.plainAttrs_list F.slot_list_count F.type_list_count (mt_lcountD (L := Y.lay X.K X.w) lay_K (by omega)) ho ha (base_of hb _ _) (few_of hs hf) hl (star_cons hs'.1) (star_any hs'.2)
    · exact pe_bm F.plainAttrs_list F.slot_list_index F.type_list_index (mt_lindexD (L := Y.lay X.K X.w) lay_K (by omega)) ho ha (base_of hb _ _) (few_of hs hf) hl (star_cons hs'.1) (star_any hs'.2)
  have hk : ∀ x, bmK m x = bmK .lcount x := fun x => by
    rcases hm with rfl | rfl
    · rfl
    · cases x with
      | loc _ => rfl
      | d y => cases y <;> rfl
  refine PE.imp key ?_
  rintro σ H Q ⟨env, S, al, re, rs, h⟩
  refine ⟨env, S, al, re, rs, Runs.bind h fun x S1 u H1 al1 _ st rs1 rx h1 => ?_⟩
  rw [hk] at h1
  cases x with
  | loc _ => exact h1.elim
  | d y =>
    cases y with
    | lst ys =>
      have eu : ∃ b vs, u = .ref b ∧ H1 b = some (.lst vs) := by
        simp only [RepW, RepD] at rx
        obtain ⟨b, vs, e1, e2, -⟩ := rx
        exact ⟨b, vs, e1, e2⟩
      obtain ⟨b, vs, eu, eb⟩ := eu
      refine ⟨by rw [eu]; exact .inl ⟨rfl, vs, .inl (.inl eb)⟩, env, S1, al1, re.step st (Nat.le_refl _), rs1, Runs.bind (show Runs (Y.lay X.K X.w) al1.length H1 al1 (RepW (Y.lay X.K X.w)) ((evEs Y.T (callD Y.T n) es env S1).bind fun ws S2 => match rd S2 (.d (.lst ys)), rds S2 ws with
        | some u, some vs => (R.of (bm m u vs) S2).bind fun z S => .ok (.d z) S
        | _, _ => .bad) Q _ from h1) fun ws S2 vs H2 al2 _ st2 rs2 rws h2 => ?_⟩
      split at h2
      · rename_i d ds e1 e2
        obtain ⟨z, ez, h3⟩ := h2.of_bind
        exact ⟨d, ds, z, S2, al2, (rx.step st2 (Nat.le_refl _)).rt rs2 e1, rts_of rs2 rws e2, ez, opS_of h3 rs2⟩
      · exact h2.elim
    | _ => exact h1.elim
theorem s_bm (G : Good Y X n c Z) {m : Bm} {a : Ex} {ea e : Expr} {as : List Expr} (ho : PE X ea (tE Y X n Z a)) (ha : PA X (e :: as) (tEs Y X n Z es)) (hb : baseOk ea = true) (hs : (e :: as).all notStar = true) (hf : (e :: as).length < 29) (hl : (apos.endLine == pos.line) = true) :
    PE X (.Call (.Attribute ea (bmN m) apos) (e :: as) [] pos) (tE Y X n Z (.bm m a es)) := by
  cases m with
  | lcount => exact s_bml G (.inl rfl) ho ha hb hs hf hl
  | lindex => exact s_bml G (.inr rfl) ho ha hb hs hf hl
  | join => exact s_bmt (m := .join) G ⟨nofun, nofun⟩ ho ha hb hs hf hl
  | count => exact s_bmt (m := .count) G ⟨nofun, nofun⟩ ho ha hb hs hf hl

/-! ### a list is changed -/
theorem write_ok {L : Lay} {H : Hp} {al : List Addr} {S : Store} {k : Nat} {a : Addr} {zs : List D} {vs' : List V} {r : D} {v : V} {Q : VK} {E : XK} (h : Runs L al.length H al (RepW L) (.ok (.d r) (S.set k (.lst zs))) Q E) (rs : RelS L H S al) (ea : al[k]? = some a)
    (rz : RepDs L H al zs vs') (rr : RepD L H al r v) : Q v (upd H a (.lst vs')) := by
  have ha : a ∈ al := List.mem_of_getElem? ea
  have kk : ∀ b u, b ≠ a → H b = some u → upd H a (.lst vs') b = some u := fun b u hb e => by rw [upd_ne hb]; exact e
  have kd : ∀ b o, H b = some o → b ∉ al → upd H a (.lst vs') b = some o ∧ b ∉ al := fun b o e m => ⟨kk b o (fun z => m (z ▸ ha)) e, m⟩
  exact h v _ al (Step.write (Nat.le_refl _) ha kk) (rs.write ea kk ⟨vs', upd_same, rz.stay kd⟩) (RepD.stay kd _ _ rr)
theorem seq_ix {k : Nat} {i : Int} {m j : Nat} (hm : m = k) (h : ixN k i = some j) (hk : k ≤ lim) : -(2 ^ 63) ≤ i ∧ i < 2 ^ 63 ∧ seqIndex? i m = some j := by
  subst hm
  unfold lim at hk
  unfold ixN at h
  split at h
  · rename_i h0
    obtain ⟨h1, h⟩ := (Option.ite_none_right_eq_some).mp h
    cases h
    refine ⟨by omega, by omega, ?_⟩
    rw [seqIndex_of (by omega) (by omega)]
  · rename_i h0
    obtain ⟨h1, h⟩ := (Option.ite_none_right_eq_some).mp h
    cases h
    refine ⟨by omega, by omega, ?_⟩
    rw [seqIndex_neg (by omega) (by omega)]
def muN : Mu → Str
  | .append => "append"
  | .extend => "extend"
  | .pop => "pop"
  | .popAt => "pop"
  | .clear => "clear"
  | .reverse => "reverse"
  | .insert => "insert"
/-- how a list is changed, by the state -/
def rMu (Y : Txt) (X : Cx) (E : XK) (m : Mu) : V → List V → Hp → VK → Prop := fun x vs H Q => ∃ k a xs ys S al, x = .ref a ∧ al[k]? = some a ∧ S[k]? = some (.lst xs) ∧ RelS (Y.lay X.K X.w) H S al ∧ RepDs (Y.lay X.K X.w) H al ys vs ∧
  ∃ r zs, mutL m xs ys = some (r, zs) ∧ Runs (Y.lay X.K X.w) al.length H al (RepW (Y.lay X.K X.w)) (.ok (.d r) (S.set k (.lst zs))) Q E
theorem reps_nil {L : Lay} {H : Hp} {al : List Addr} {vs : List V} (h : RepDs L H al [] vs) : vs = [] := by simpa only [RepDs] using h
theorem reps_one {L : Lay} {H : Hp} {al : List Addr} {d : D} {vs : List V} (h : RepDs L H al [d] vs) : ∃ v, vs = [v] ∧ RepD L H al d v := by
  simp only [RepDs] at h
  obtain ⟨v, us, rfl, r, rfl⟩ := h
  exact ⟨v, rfl, r⟩
theorem reps_two {L : Lay} {H : Hp} {al : List Addr} {d e : D} {vs : List V} (h : RepDs L H al [d, e] vs) : ∃ v w, vs = [v, w] ∧ RepD L H al d v ∧ RepD L H al e w := by
  simp only [RepDs] at h
  obtain ⟨v, us, rfl, r, w, us', rfl, r', rfl⟩ := h
  exact ⟨v, w, rfl, r, r'⟩
theorem non_rep {L : Lay} {H : Hp} {al : List Addr} : RepD L H al .non .non := by simp [RepD]
theorem RepDs.dropLast {L : Lay} {H : Hp} {al : List Addr} {ds : List D} {vs : List V} (h : RepDs L H al ds vs) : RepDs L H al ds.dropLast vs.dropLast := by
  rw [List.dropLast_eq_take, List.dropLast_eq_take, h.length]
  exact h.take _
theorem mu_append {E : XK} : MtR X "list.append" (rMu Y X E .append) := by
  rintro pins s σ H x vs v us Q I rx rv ⟨k, a, xs, ys, S, al, rfl, ea, eS, rS, ry, r, zs, em, hr⟩
  obtain ⟨v0, hH, r0⟩ := rS.obj k a _ ea eS
  unfold mutL at em
  split at em <;> (try contradiction) <;> simp only [reduceCtorEq, Option.ite_none_right_eq_some, Option.some.injEq, Prod.mk.injEq] at em
  obtain ⟨hl, rfl, rfl⟩ := em
  obtain ⟨w, rfl, rw_⟩ := reps_one ry
  exact mt_append pins s σ H _ _ v us Q I rx rv ⟨a, v0, w, rfl, rfl, hH, by rw [← r0.length]; exact Nat.lt_of_lt_of_le hl lim_line, write_ok hr rS ea (r0.append (.one rw_)) non_rep⟩
theorem mu_extend {E : XK} : MtR X "list.extend" (rMu Y X E .extend) := by
  rintro pins s σ H x vs v us Q I rx rv ⟨k, a, xs, ys, S, al, rfl, ea, eS, rS, ry, r, zs, em, hr⟩
  obtain ⟨v0, hH, r0⟩ := rS.obj k a _ ea eS
  unfold mutL at em
  split at em <;> (try contradiction) <;> simp only [reduceCtorEq, Option.ite_none_right_eq_some, Option.some.injEq, Prod.mk.injEq] at em
  obtain ⟨hl, rfl, rfl⟩ := em
  obtain ⟨w, rfl, rw_⟩ := reps_one ry
  simp only [RepD] at rw_
  obtain ⟨b, ws, rfl, hb, -, rb⟩ := rw_
  exact mt_extend pins s σ H _ _ v us Q I rx rv ⟨a, b, v0, ws, rfl, rfl, hH, hb, by rw [← r0.length, ← rb.length]; exact Nat.le_trans hl lim_line, write_ok hr rS ea (r0.append rb) non_rep⟩
theorem mu_pop {E : XK} : MtR X "list.pop" (rMu Y X E .pop) := by
  rintro pins s σ H x vs v us Q I rx rv ⟨k, a, xs, ys, S, al, rfl, ea, eS, rS, ry, r, zs, em, hr⟩
  obtain ⟨v0, hH, r0⟩ := rS.obj k a _ ea eS
  unfold mutL at em
  split at em <;> (try contradiction) <;> simp only [reduceCtorEq, Option.map_eq_some_iff, Prod.mk.injEq] at em
  obtain ⟨y, ey, rfl, rfl⟩ := em
  obtain rfl := reps_nil ry
  obtain ⟨w, ew, rw_⟩ := r0.get ey
  rw [r0.length] at ew
  exact mt_pop pins s σ H _ _ v us Q I rx rv ⟨a, v0, w, rfl, rfl, hH, ew, write_ok hr rS ea r0.dropLast rw_⟩
theorem mu_popAt {E : XK} : MtR X "list.pop" (rMu Y X E .popAt) := by
  rintro pins s σ H x vs v us Q I rx rv ⟨k, a, xs, ys, S, al, rfl, ea, eS, rS, ry, r, zs, em, hr⟩
  obtain ⟨v0, hH, r0⟩ := rS.obj k a _ ea eS
  unfold mutL at em
  split at em <;> (try contradiction) <;> simp only [reduceCtorEq, Option.ite_none_right_eq_some, Option.bind_eq_some_iff, Option.map_eq_some_iff, Prod.mk.injEq] at em
  obtain ⟨hl, j, ej, y, ey, rfl, rfl⟩ := em
  obtain ⟨w, rfl, rw0⟩ := reps_one ry
  obtain rfl := (RepD.rt rw0).int
  obtain ⟨w, ew, rw_⟩ := r0.get ey
  obtain ⟨h1, h2, h3⟩ := seq_ix r0.length.symm ej hl
  exact mt_popAt pins s σ H _ _ v us Q I rx rv ⟨a, v0, _, j, w, rfl, rfl, hH, h1, h2, h3, ew, write_ok hr rS ea (r0.erase j) rw_⟩
theorem mu_clear {E : XK} : MtR X "list.clear" (rMu Y X E .clear) := by
  rintro pins s σ H x vs v us Q I rx rv ⟨k, a, xs, ys, S, al, rfl, ea, eS, rS, ry, r, zs, em, hr⟩
  obtain ⟨v0, hH, r0⟩ := rS.obj k a _ ea eS
  unfold mutL at em
  split at em <;> (try contradiction) <;> simp only [reduceCtorEq, Option.some.injEq, Prod.mk.injEq] at em
  obtain ⟨rfl, rfl⟩ := em
  obtain rfl := reps_nil ry
  exact mt_clear pins s σ H _ _ v us Q I rx rv ⟨a, v0, rfl, rfl, hH, write_ok hr rS ea .nil non_rep⟩
theorem mu_reverse {E : XK} : MtR X "list.reverse" (rMu Y X E .reverse) := by
  rintro pins s σ H x vs v us Q I rx rv ⟨k, a, xs, ys, S, al, rfl, ea, eS, rS, ry, r, zs, em, hr⟩
  obtain ⟨v0, hH, r0⟩ := rS.obj k a _ ea eS
  unfold mutL at em
  split at em <;> (try contradiction) <;> simp only [reduceCtorEq, Option.some.injEq, Prod.mk.injEq] at em
  obtain ⟨rfl, rfl⟩ := em
  obtain rfl := reps_nil ry
  exact mt_reverse pins s σ H _ _ v us Q I rx rv ⟨a, v0, rfl, rfl, hH, write_ok hr rS ea r0.reverse non_rep⟩
theorem mu_insert {E : XK} : MtR X "list.insert" (rMu Y X E .insert) := by
  rintro pins s σ H x vs v us Q I rx rv ⟨k, a, xs, ys, S, al, rfl, ea, eS, rS, ry, r, zs, em, hr⟩
  obtain ⟨v0, hH, r0⟩ := rS.obj k a _ ea eS
  unfold mutL at em
  split at em <;> (try contradiction) <;> simp only [reduceCtorEq, Option.ite_none_right_eq_some, Option.some.injEq, Prod.mk.injEq] at em
  obtain ⟨⟨hl, h0, h1⟩, rfl, rfl⟩ := em
  obtain ⟨u, w, rfl, ru, rw_⟩ := reps_two ry
  obtain rfl := (RepD.rt ru).int
  exact mt_insert pins s σ H _ _ v us Q I rx rv ⟨a, v0, _, w, rfl, rfl, hH, by rw [← r0.length]; exact Nat.lt_of_lt_of_le hl lim_line, h0, by omega, write_ok hr rS ea (((r0.take _).append (.one rw_)).append (r0.drop _)) non_rep⟩
theorem isLs_of {S : Store} {k : Nat} (h : isLs S (.loc k) = true) : ∃ xs, S[k]? = some (.lst xs) := by
  unfold isLs at h
  simp only at h
  split at h
  · exact ⟨_, by assumption⟩
  · cases h
theorem mu_read {m : Mu} {a : Ex} {σ : L2.St} {H : Hp} {Q : VK} (h : tE Y X n Z (.mu m a es) σ H Q) : tBM X.K "list" (rMu Y X (AtX Z σ) m) (tE Y X n Z a) (tEs Y X n Z es) σ H Q := by
  obtain ⟨env, S, al, re, rs, h⟩ := h
  refine ⟨env, S, al, re, rs, Runs.bind h fun x S1 u H1 al1 _ st rs1 rx h1 => ?_⟩
  cases x with
  | d _ => exact h1.elim
  | loc k =>
    split at h1
    · rename_i hl
      obtain ⟨xs, q⟩ := isLs_of hl
      obtain ⟨a', ea, rfl⟩ := rx
      obtain ⟨v0, hH, r0⟩ := rs1.obj k a' _ ea q
      refine ⟨.inl ⟨rfl, v0, .inl (.inl hH)⟩, env, S1, al1, re.step st (Nat.le_refl _), rs1, Runs.bind h1 fun ws S2 vs H2 al2 _ st2 rs2 rws h2 => ?_⟩
      obtain ⟨ys, ey, h3⟩ := h2.of_bind
      have ea2 : al2[k]? = some a' := by
        rw [st2.get (List.getElem?_eq_some_iff.mp ea).1]; exact ea
      unfold muR at h3
      simp only at h3
      cases q2 : S2[k]? with
      | none => rw [q2] at h3; exact h3.elim
      | some o2 =>
        rw [q2] at h3
        cases o2 with
        | lst xs2 =>
          simp only at h3
          cases em : mutL m xs2 ys with
          | none => rw [em] at h3; exact h3.elim
          | some r =>
            rw [em] at h3
            exact ⟨k, a', xs2, ys, S2, al2, rfl, ea2, q2, rs2, rws.dats ey, r.1, r.2, em, h3⟩
        | _ => exact h3.elim
    · exact h1.elim
theorem mu_rule {E : XK} {m : Mu} : ∃ id, Slot "list" (muN m) id ∧ typeOf (.builtin id) = pure (.type "method_descriptor") ∧ MtR X id (rMu Y X E m) := by
  cases m with
  | append => exact ⟨_, F.slot_list_append, F.type_list_append, mu_append⟩
  | extend => exact ⟨_, F.slot_list_extend, F.type_list_extend, mu_extend⟩
  | pop => exact ⟨_, F.slot_list_pop, F.type_list_pop, mu_pop⟩
  | popAt => exact ⟨_, F.slot_list_pop, F.type_list_pop, mu_popAt⟩
  | clear => exact ⟨_, F.slot_list_clear, F.type_list_clear, mu_clear⟩
  | reverse => exact ⟨_, F.slot_list_reverse, F.type_list_reverse, mu_reverse⟩
  | insert => exact ⟨_, F.slot_list_insert, F.type_list_insert, mu_insert⟩
theorem s_mu {m : Mu} {a : Ex} {ea e : Expr} {as : List Expr} (ho : PE X ea (tE Y X n Z a)) (ha : PA X (e :: as) (tEs Y X n Z es)) (hb : baseOk ea = true) (hs : (e :: as).all notStar = true) (hf : (e :: as).length < 29) (hl : (apos.endLine == pos.line) = true) :
    PE X (.Call (.Attribute ea (muN m) apos) (e :: as) [] pos) (tE Y X n Z (.mu m a es)) := by
  have hs' := hs
  simp only [List.all_cons, Bool.and_eq_true] at hs'
  refine ⟨fun pins s σ H Q I h => ?_⟩
  obtain ⟨id, sl, ty, mt⟩ := mu_rule (Y := Y) (X := X) (E := AtX Z σ) (m := m)
  exact (pe_bm F.plainAttrs_list sl ty mt ho ha (base_of hb _ _) (few_of hs hf) hl (star_cons hs'.1) (star_any hs'.2)).run pins s σ H Q I (mu_read h)
theorem s_mu0 {m : Mu} {a : Ex} {ea : Expr} (ho : PE X ea (tE Y X n Z a)) (hb : baseOk ea = true) (hl : (apos.endLine == pos.line) = true) : PE X (.Call (.Attribute ea (muN m) apos) [] [] pos) (tE Y X n Z (.mu m a .nil)) := by
  refine ⟨fun pins s σ H Q I h => ?_⟩
  obtain ⟨id, sl, ty, mt⟩ := mu_rule (Y := Y) (X := X) (E := AtX Z σ) (m := m)
  refine (pe_bm0 F.plainAttrs_list sl ty mt ho (base_of hb _ _) hl).run pins s σ H Q I ?_
  obtain ⟨env, S, al, re, rs, h⟩ := mu_read h
  refine ⟨env, S, al, re, rs, h.imp fun x H1 q => ⟨q.1, ?_⟩⟩
  obtain ⟨env', S', al', re', rs', h'⟩ := q.2
  exact Runs.here (show Runs (Y.lay X.K X.w) _ H1 al' (RepWs (Y.lay X.K X.w)) (.ok [] S') _ _ from h') (Nat.le_refl _) rs' rfl

/-! ### f-strings -/
theorem s_fmt {a : Ex} {ea : Expr} (ha : PE X ea (tE Y X n Z a)) : PE X (.FormattedValue ea (-1) none pos) (tE Y X n Z (.fmt a)) := by
  refine PE.imp (pe_fmt ha) ?_
  rintro σ H Q ⟨env, S, al, re, rs, h⟩
  refine ⟨env, S, al, re, rs, Runs.bind h fun x S1 u H1 al1 _ st rs1 rx h1 => ?_⟩
  obtain ⟨z, ez, h2⟩ := h1.of_bind
  obtain ⟨d, ed, ez⟩ := Option.bind_eq_some_iff.mp ez
  have r := rx.rt rs1 ed
  have g := opS_of h2 rs1
  cases d <;> simp only [fmtD, reduceCtorEq, Option.some.injEq, Option.ite_none_right_eq_some] at ez
  · obtain ⟨hs, rfl⟩ := ez
    refine .inr ⟨_, r.int, log2_of hs, ?_⟩
    have q := g.str (strI_len hs)
    unfold strI at q
    rw [tx_self] at q
    exact q
  · subst ez
    refine .inl ⟨_, r.str, ?_, g.str r.strL.2⟩
    rw [tx_len]; exact Nat.le_trans r.strL.2 lim_line
/-- the parts of an f-string -/
def tJ (Y : Txt) (X : Cx) (n : Nat) (Z : WX) (acc : Tx) : Exs → List TE
  | .nil => []
  | .cons e es => tE Y X n Z e :: tJ Y X n Z acc es
theorem j_run {env : Env} {σ : L2.St} : ∀ {ps : Exs} {acc : Tx} {S : Store} {al : List Addr} {H : Hp} {Q : VK}, RelE (Y.lay X.K X.w) H al env σ → RelS (Y.lay X.K X.w) H S al → acc.length ≤ lim →
    Runs (Y.lay X.K X.w) al.length H al (RepW (Y.lay X.K X.w)) ((evJ Y.T (callD Y.T n) ps acc env S).bind fun s S1 => .ok (.d (.str s)) S1) Q (AtX Z σ) → tJs (tJ Y X n Z [] ps) (tx acc) σ H fun out H1 => Q (.str out) H1
  | .nil, acc, S, al, H, Q, re, rs, ha, h => (opS_of (show Runs (Y.lay X.K X.w) al.length H al (RepW (Y.lay X.K X.w)) (.ok (.d (.str acc)) S) Q _ from h) rs).str ha
  | .cons e es, acc, S, al, H, Q, re, rs, ha, h => by
    have h' : Runs (Y.lay X.K X.w) al.length H al (RepW (Y.lay X.K X.w)) ((evE Y.T (callD Y.T n) e env S).bind fun w S1 => (match w with
      | .d (.str s) => if acc.length + s.length ≤ lim then evJ Y.T (callD Y.T n) es (acc ++ s) env S1 else .bad
      | _ => .bad : R Tx).bind fun s S1 => .ok (.d (.str s)) S1) Q (AtX Z σ) := by
      rw [← R.bind_assoc]; exact h
    refine ⟨env, S, al, re, rs, h'.bind fun w S1 v H1 al1 _ st rs1 rw_ h1 => ?_⟩
    cases w with
    | loc _ => exact h1.elim
    | d y =>
      cases y with
      | str s =>
        simp only at h1
        split at h1
        · rename_i hl
          have ev : v = .str (tx s) := by
            simp only [RepW, RepD] at rw_
            exact rw_.1
          refine ⟨tx s, ev, ?_, ?_⟩
          · rw [tx_app, tx_len, List.length_append]; exact Nat.le_trans hl lim_line
          · rw [tx_app]
            exact j_run (re.step st (Nat.le_refl _)) rs1 (by rw [List.length_append]; exact hl) h1
        · exact h1.elim
      | _ => exact h1.elim
/-- each part's reading -/
inductive PJE (Y : Txt) (X : Cx) (n : Nat) (Z : WX) : List Expr → Exs → Prop where
  | nil : PJE Y X n Z [] .nil
  | cons {e : Expr} {k : Ex} {es : List Expr} {ks : Exs} (h : PE X e (tE Y X n Z k)) (r : PJE Y X n Z es ks) : PJE Y X n Z (e :: es) (.cons k ks)
theorem PJE.pj {es : List Expr} {ks : Exs} (h : PJE Y X n Z es ks) : PJ X es (tJ Y X n Z [] ks) := by
  induction h with
  | nil => exact .nil
  | cons h r ih => exact .cons h ih
theorem s_fst {v1 v2 : Expr} {rest : List Expr} {ps : Exs} (h : PJE Y X n Z (v1 :: v2 :: rest) ps) : PE X (.JoinedStr (v1 :: v2 :: rest) pos) (tE Y X n Z (.fst ps)) := by
  refine PE.imp (pe_joined h.pj) ?_
  rintro σ H Q ⟨env, S, al, re, rs, h⟩
  exact j_run re rs (Nat.zero_le _) h
theorem s_fst1 {v1 : Expr} {k : Ex} (h : PE X v1 (tE Y X n Z k)) : PE X (.JoinedStr [v1] pos) (tE Y X n Z (.fst (.cons k .nil))) := by
  refine PE.imp (pe_joined1 h) ?_
  rintro σ H Q ⟨env, S, al, re, rs, h⟩
  obtain ⟨env', S', al', re', rs', h'⟩ := j_run (acc := []) (Z := Z) re rs (Nat.zero_le _) h
  refine ⟨env', S', al', re', rs', h'.imp fun v H1 q => ?_⟩
  obtain ⟨y, rfl, -, q⟩ := q
  have e : tx [] ++ y = y := by
    show Str.append (tx []) y = y
    simp [tx, Str.append]
  rw [← e]; exact q

/-! ### what was just made, as data -/
theorem cold_rep {H : Hp} {al al2 : List Addr} {a : Addr} {o : SO} {d : D} (r : RepO (Y.lay X.K X.w) H al a o) (e : cold Y.T o = some d) (ha : a ∉ al2) (k : ∀ b o, H b = some o → b ∉ al → H b = some o ∧ b ∉ al2) : RepD (Y.lay X.K X.w) H al2 d (.ref a) := by
  cases o with
  | lst xs =>
    cases e
    obtain ⟨vs, e1, r1⟩ := r
    simp only [RepD]
    exact ⟨a, vs, rfl, e1, ha, r1.stay k⟩
  | dic ks vs =>
    cases e
    obtain ⟨kvs, e1, d, r1⟩ := r
    simp only [RepD]
    exact ⟨a, rfl, .inr ⟨kvs, e1, ha, d, r1.stay k⟩⟩
  | hid _ => cases e
  | ins c fs =>
    obtain ⟨kl, ek, e⟩ := Option.bind_eq_some_iff.mp e
    obtain ⟨e1, e⟩ := (Option.ite_none_right_eq_some).mp e
    cases e
    obtain ⟨dx, fvs, e2, e3, r1⟩ := r
    simp only [RepD]
    refine ⟨a, dx, fvs, rfl, e2, ha, ?_, r1.stay k⟩
    rw [e3]
    show _ = (match Y.T.cls[c]? with | some k => k.flds | none => []).map _
    rw [ek]
    simp only
    rw [← e1, List.map_map]
    rfl
theorem s_frz {a : Ex} {ea : Expr} (ha : PE X ea (tE Y X n Z a)) : PE X ea (tE Y X n Z (.frz a)) := by
  refine PE.imp ha ?_
  rintro σ H Q ⟨env, S, al, re, rs, h⟩
  refine ⟨env, S, al, re, rs, ?_⟩
  have h' : Runs (Y.lay X.K X.w) al.length H al (RepW (Y.lay X.K X.w)) ((evE Y.T (callD Y.T n) a env S).bind fun x S1 => coldAt Y.T S.length x S1) Q (AtX Z σ) := h
  cases q : evE Y.T (callD Y.T n) a env S with
  | bad => rw [q] at h'; exact h'
  | ex _ _ _ => rw [q] at h'; exact h'
  | ok x S1 =>
    rw [q, R.bind_ok] at h'
    intro v H1 al1 st rs1 rx
    unfold coldAt at h'
    cases x with
    | d y => exact h' v H1 al1 st rs1 rx
    | loc m =>
      simp only at h'
      split at h'
      · rename_i hm
        obtain ⟨rfl, hl⟩ := hm
        cases q : S1[S.length]? with
        | none => rw [q] at h'; exact h'.elim
        | some o =>
          rw [q, Option.bind_some] at h'
          cases q2 : cold Y.T o with
          | none => rw [q2] at h'; exact h'.elim
          | some d =>
            rw [q2] at h'
            obtain ⟨a', ea', rfl⟩ := rx
            have hle : S.length ≤ al1.length := by rw [rs1.len]; omega
            refine h' (.ref a') H1 (al1.take S.length) (st.trans ?_) (rs1.cutTo _) ?_
            · exact Step.cutTo (by rw [rs.len]; exact Nat.le_refl _) hle
            · exact cold_rep (rs1.obj _ a' _ ea' q) q2 (not_mem_take rs1.nd ea') fun b u e m => ⟨e, fun z => m (List.mem_of_mem_take z)⟩
      · exact h'.elim
end
end Ev
end
section
/-! EvD9: walks, targets, comprehensions. Own work. -/
set_option linter.all false
set_option autoImplicit false
set_option maxRecDepth 100000
set_option maxHeartbeats 1000000
namespace Ev
open PySem PySem.Spec PyProof.Rows L2 RZ

/-! ### what a walk gives -/
abbrev There (H : Hp) (al : List Addr) : Prop := ∀ a ∈ al, ∃ o, H a = some o
/-- the walk J gives the data ds, from (H1, al1) on -/
structure Goes (L : Lay) (J : L2.It) (ds : List D) (H1 : Hp) (al1 : List Addr) : Prop where
  go : ∀ i H al, i < ds.length → Step 0 H1 al1 H al → J.go i H
  stop : ∀ H al, Step 0 H1 al1 H al → J.stop ds.length H
  yld : ∀ i H al x H', i < ds.length → Step 0 H1 al1 H al → There H al → J.yld i H x H' → (∀ a o, H a = some o → H' a = some o) ∧ ∀ d, ds[i]? = some d → RepD L H' al d x
section
variable {L : Lay} {K : PySem.W.Frag} {H1 : Hp} {al1 : List Addr}
theorem kept_stay {H H' : Hp} {al : List Addr} (k : ∀ a o, H a = some o → H' a = some o) : ∀ a o, H a = some o → a ∉ al → H' a = some o ∧ a ∉ al := fun a o e m => ⟨k a o e, m⟩
theorem new_tup {H : Hp} {al : List Addr} {T : Addr} {ds : List D} {vs : List V} (hT : H T = none) (th : There H al) (r : RepDs L H al ds vs) : RepD L (upd H T (.tup vs)) al (.tup ds) (.ref T) := by
  simp only [RepD]
  refine ⟨T, vs, rfl, .inl ⟨upd_same, fun m => ?_⟩, r.stay (kept_stay (keep_upd hT))⟩
  obtain ⟨o, e⟩ := th T m
  rw [hT] at e; cases e
theorem goes_lst {a : Addr} {ds : List D} {vs : List V} (hH : H1 a = some (.lst vs)) (ha : a ∉ al1) (r : RepDs L H1 al1 ds vs) : Goes L (Itl K a) ds H1 al1 := by
  have len := r.length
  have q : ∀ {H al}, Step 0 H1 al1 H al → SqL K H a vs := fun st => .inl (.inl (st.keep _ _ hH ha).1)
  refine ⟨fun i H al hi st => walk_list.goes i H (by omega) (q st), fun H al st => by rw [len]; exact walk_list.stops H (q st), fun i H al x H' hi st th y => ?_⟩
  obtain ⟨rfl, e⟩ := walk_list.yields i H x H' (by omega) (q st) y
  refine ⟨fun _ _ z => z, fun d ed => ?_⟩
  obtain ⟨v, ev, rv⟩ := r.get ed
  rw [e] at ev
  cases ev
  exact rv.stay st.keep
theorem goes_tup {a : Addr} {ds : List D} {vs : List V} (hK : L.K = K) (hH : (H1 a = some (.tup vs) ∧ a ∉ al1) ∨ KTup L.K a vs) (r : RepDs L H1 al1 ds vs) : Goes L (Itt K a) ds H1 al1 := by
  have len := r.length
  have q : ∀ {H al}, Step 0 H1 al1 H al → SqT K H a vs := fun st => hH.elim (fun z => .inl (.inl (st.keep _ _ z.1 z.2).1)) fun z => .inr (hK ▸ z)
  refine ⟨fun i H al hi st => walk_tup.goes i H (by omega) (q st), fun H al st => by rw [len]; exact walk_tup.stops H (q st), fun i H al x H' hi st th y => ?_⟩
  obtain ⟨rfl, e⟩ := walk_tup.yields i H x H' (by omega) (q st) y
  refine ⟨fun _ _ z => z, fun d ed => ?_⟩
  obtain ⟨v, ev, rv⟩ := r.get ed
  rw [e] at ev
  cases ev
  exact rv.stay st.keep
theorem goes_scr {a : Addr} {ns : List Int} (hK : L.K = K) (r : RepD L H1 al1 (.scr ns) (.ref a)) : Goes L (Itl K a) (ns.map .int) H1 al1 := by
  simp only [RepD] at r
  obtain ⟨a', e, r⟩ := r
  cases e
  have len : (ns.map D.int).length = (ns.map V.int).length := by simp
  have q : ∀ {H al}, Step 0 H1 al1 H al → SqL K H a (ns.map V.int) := fun st => r.elim (fun ⟨o, z, m, w⟩ => by
    have z' := (st.keep _ _ z m).1
    rcases w with rfl | ⟨ob, rfl⟩
    · exact .inl (.inl z')
    · exact .inl (.inr ⟨ob, z'⟩)) fun z => .inr (hK ▸ z)
  refine ⟨fun i H al hi st => walk_list.goes i H (by omega) (q st), fun H al st => by rw [len]; exact walk_list.stops H (q st), fun i H al x H' hi st th y => ?_⟩
  obtain ⟨rfl, e⟩ := walk_list.yields i H x H' (by omega) (q st) y
  refine ⟨fun _ _ z => z, fun d ed => ?_⟩
  obtain ⟨v, ev, rv⟩ := (RepDs.ofInts (L := L) (H := H') (al := al) ns).get ed
  rw [e] at ev
  cases ev
  exact rv
theorem goes_str {s : Tx} : Goes L (Its (tx s)) (chars s) H1 al1 := by
  have len : (chars s).length = (tx s).cps.size := by simp [chars, tx]
  refine ⟨fun i H al hi st => by show i < _; rw [← len]; exact hi, fun H al st => by show (tx s).cps.size ≤ _; rw [len]; exact Nat.le_refl _, fun i H al x H' hi st th y => ?_⟩
  obtain ⟨rfl, ch, e, rfl⟩ := y
  refine ⟨fun _ _ z => z, fun d ed => ?_⟩
  simp only [chars, List.getElem?_map, Option.map_eq_some_iff] at ed
  obtain ⟨b, eb, rfl⟩ := ed
  have : ch = b := by
    simp only [tx, List.getElem?_toArray] at e
    rw [eb] at e; cases e; rfl
  subst this
  simp only [RepD]
  exact ⟨by simp [tx], by simp [lim]⟩
theorem goes_rng {i j : Int} : Goes L (Itr i (j - i).toNat) (intRange i j) H1 al1 := by
  have len : (intRange i j).length = (j - i).toNat := by simp [intRange]
  refine ⟨fun k H al hi st => by show k < _; rw [← len]; exact hi, fun H al st => by show (j - i).toNat ≤ _; rw [len]; exact Nat.le_refl _, fun k H al x H' hi st th y => ?_⟩
  obtain ⟨rfl, rfl⟩ := y
  refine ⟨fun _ _ z => z, fun d ed => ?_⟩
  simp only [intRange, List.getElem?_map, Option.map_eq_some_iff] at ed
  obtain ⟨b, eb, rfl⟩ := ed
  have hb : b = k := by
    obtain ⟨h1, h2⟩ := List.getElem?_eq_some_iff.mp eb
    simp at h2; exact h2.symm
  subst hb
  simp [RepD]
theorem goes_enu {a : Addr} {ds : List D} {vs : List V} (hH : H1 a = some (.lst vs)) (ha : a ∉ al1) (r : RepDs L H1 al1 ds vs) : Goes L (Ite K a) (enumD ds) H1 al1 := by
  have len := r.length
  have len2 : (enumD ds).length = vs.length := by simp [enumD, len]
  have q : ∀ {H al}, Step 0 H1 al1 H al → SqL K H a vs := fun st => .inl (.inl (st.keep _ _ hH ha).1)
  refine ⟨fun i H al hi st => walk_enum.goes i H (by omega) (q st), fun H al st => by rw [len2]; exact walk_enum.stops H (q st), fun i H al x H' hi st th y => ?_⟩
  obtain ⟨T, u, v, rfl, hT, rfl, e1, e2⟩ := walk_enum.yields i H x H' (by omega) (q st) y
  refine ⟨keep_upd hT, fun d ed => ?_⟩
  simp only [enumD, List.getElem?_map, Option.map_eq_some_iff] at ed
  obtain ⟨p, ep, rfl⟩ := ed
  rw [List.getElem?_zipIdx] at ep
  obtain ⟨d0, ed0, rfl⟩ := Option.map_eq_some_iff.mp ep
  obtain ⟨w, ew, rw_⟩ := r.get ed0
  simp only at e1 e2
  rw [e2] at ew
  cases ew
  cases e1
  simp only [Nat.zero_add]
  refine new_tup hT th (.cons ?_ (.one (rw_.stay st.keep)))
  simp [RepD]
theorem walk_zipT {a b : Addr} {xs ys : List V} {k : Nat} (hk : k = min xs.length ys.length) : Walk (ItzT K a b) k (fun H => SqT K H a xs ∧ SqT K H b ys) (YPair (fun i => xs[i]?) (fun i => ys[i]?)) := by
  subst hk
  constructor
  · intro i H hi q
    have h1 : i < xs.length := by omega
    have h2 : i < ys.length := by omega
    exact ⟨xs, ys, xs[i], ys[i], q.1, q.2, by simp [h1], by simp [h2]⟩
  · intro H q
    exact ⟨xs, ys, q.1, q.2, by omega⟩
  · rintro i H v H' - q ⟨T, x, z, e1, e2, e3, e4, e5⟩
    exact ⟨T, x, z, e1, e2, e3, e4 xs q.1, e5 ys q.2⟩
theorem goes_zipG {J : L2.It} {xs ys : List D} {us vs : List V} {G : Hp → Prop} {k : Nat} (w : Walk J k G (YPair (fun i => us[i]?) (fun i => vs[i]?))) (hk : k = min us.length vs.length) (q : ∀ {H al}, Step 0 H1 al1 H al → G H) (rx : RepDs L H1 al1 xs us) (ry : RepDs L H1 al1 ys vs) : Goes L J (zipD xs ys) H1 al1 := by
  have l1 := rx.length
  have l2 := ry.length
  have len : (zipD xs ys).length = k := by simp [zipD, l1, l2, hk]
  refine ⟨fun i H al hi st => w.goes i H (by omega) (q st), fun H al st => by rw [len]; exact w.stops H (q st), fun i H al x H' hi st th y => ?_⟩
  obtain ⟨T, u, v, rfl, hT, rfl, e1, e2⟩ := w.yields i H x H' (by omega) (q st) y
  refine ⟨keep_upd hT, fun d ed => ?_⟩
  simp only [zipD, List.getElem?_map, Option.map_eq_some_iff] at ed
  obtain ⟨p, ep, rfl⟩ := ed
  rw [List.getElem?_zip_eq_some] at ep
  obtain ⟨v1, ev1, r1⟩ := rx.get ep.1
  obtain ⟨v2, ev2, r2⟩ := ry.get ep.2
  simp only at e1 e2
  rw [ev1] at e1
  rw [ev2] at e2
  cases e1; cases e2
  exact new_tup hT th (.cons (r1.stay st.keep) (.one (r2.stay st.keep)))
end

/-! ### the walks' rules -/
section
variable {Y : Txt} {X : Cx} {n : Nat} {c : Sco} {Z : WX} {pos p : Pos} {tg : Expr}
def tI (Y : Txt) (X : Cx) (n : Nat) (Z : WX) (it : It) : TI := fun σ H R => ∃ env S al, RelE (Y.lay X.K X.w) H al env σ ∧ RelS (Y.lay X.K X.w) H S al ∧
  Runs (Y.lay X.K X.w) al.length H al (fun H1 al1 ds J => Goes (Y.lay X.K X.w) J ds H1 al1) (evI Y.T (callD Y.T n) it env S) R (AtX Z σ)
theorem i_seq {a : Ex} {ea : Expr} (ha : PE X ea (tE Y X n Z a)) : PI X tg ea (tI Y X n Z (.seq a)) := by
  refine ⟨fun pins s σ H R2 I h => ?_⟩
  obtain ⟨env, S, al, re, rs, h⟩ := h
  have h' : Runs (Y.lay X.K X.w) al.length H al (fun H1 al1 ds J => Goes (Y.lay X.K X.w) J ds H1 al1) ((evE Y.T (callD Y.T n) a env S).bind fun w S1 => match w with
    | .d x => R.of (items x) S1
    | _ => .bad) R2 (AtX Z σ) := h
  cases q : evE Y.T (callD Y.T n) a env S with
  | bad => rw [q] at h'; exact h'.elim
  | ex cc vs S1 =>
    rw [q] at h'
    refine (pi_list ha).run pins s σ H R2 I ⟨env, S, al, re, rs, ?_⟩
    rw [q]; exact h'
  | ok w S1 =>
    rw [q, R.bind_ok] at h'
    cases w with
    | loc _ => exact h'.elim
    | d x =>
      obtain ⟨ds, ed, h2⟩ := h'.of_of
      cases x <;> simp only [items, reduceCtorEq, Option.some.injEq] at ed
      · subst ed
        refine (pi_str ha).run pins s σ H R2 I ⟨env, S, al, re, rs, ?_⟩
        rw [q]
        intro v H1 al1 st rs1 rv
        exact ⟨_, (RepD.rt rv).str, h2 _ H1 al1 st rs1 goes_str⟩
      · subst ed
        refine (pi_tup ha).run pins s σ H R2 I ⟨env, S, al, re, rs, ?_⟩
        rw [q]
        intro v H1 al1 st rs1 rv
        simp only [RepW, RepD] at rv
        obtain ⟨a', vs, rfl, hH, r⟩ := rv
        exact ⟨a', rfl, ⟨vs, hH.elim (fun z => .inl (.inl z.1)) .inr⟩, h2 _ H1 al1 st rs1 (goes_tup lay_K hH r)⟩
      · subst ed
        refine (pi_list ha).run pins s σ H R2 I ⟨env, S, al, re, rs, ?_⟩
        rw [q]
        intro v H1 al1 st rs1 rv
        simp only [RepW, RepD] at rv
        obtain ⟨a', vs, rfl, hH, hn, r⟩ := rv
        exact ⟨a', rfl, ⟨vs, .inl (.inl hH)⟩, h2 _ H1 al1 st rs1 (goes_lst hH hn r)⟩
      · subst ed
        refine (pi_list ha).run pins s σ H R2 I ⟨env, S, al, re, rs, ?_⟩
        rw [q]
        intro v H1 al1 st rs1 rv
        obtain ⟨a', rfl, hq⟩ := (RepD.rt rv).scr
        exact ⟨a', rfl, ⟨_, hq⟩, h2 _ H1 al1 st rs1 (goes_scr lay_K rv)⟩
theorem range_g (G : Good Y X n c Z) {x : Str} (hx : x ∈ Y.fre) (hg : glB c.sc x = true) : Gl X x ∧ X.mg x = none := ⟨(gl_of G hg).1, G.lnk.free hx⟩
theorem rng_of {j : Int} (h : rngOk j = true) : -(2 ^ 62) ≤ j ∧ j < 2 ^ 62 := by
  simp only [rngOk, Bool.and_eq_true, decide_eq_true_eq] at h
  exact h
theorem i_rng1 (G : Good Y X n c Z) {a : Ex} {ea : Expr} (hx : ("range" : Str) ∈ Y.fre) (hg : glB c.sc "range" = true) (ha : PE X ea (tE Y X n Z a)) (hs : notStar ea = true) : PI X tg (.Call (.Name "range" p) [ea] [] pos) (tI Y X n Z (.rng1 a)) := by
  obtain ⟨g1, g2⟩ := range_g G hx hg
  refine ⟨fun pins s σ H R2 I h => (pi_range1 g1 g2 (pa_cons ha pa_nil (star_cons hs)) (star_cons hs)).run pins s σ H R2 I ?_⟩
  obtain ⟨env, S, al, re, rs, h⟩ := h
  refine ⟨env, S, al, re, rs, Runs.bind h fun w S1 v H1 al1 _ st rs1 rw_ h1 => ?_⟩
  cases w with
  | loc _ => exact h1.elim
  | d x =>
    cases x with
    | int j =>
      simp only at h1
      split at h1
      · rename_i hj
        obtain ⟨b1, b2⟩ := rng_of hj
        refine ⟨j, by rw [(RepD.rt rw_).int], b1, b2, ?_⟩
        have := h1.here (Nat.le_refl _) rs1 (goes_rng (L := Y.lay X.K X.w) (H1 := H1) (al1 := al1) (i := 0) (j := j))
        simpa using this
      · exact h1.elim
    | _ => exact h1.elim
theorem i_rng2 (G : Good Y X n c Z) {a b : Ex} {ea eb : Expr} (hx : ("range" : Str) ∈ Y.fre) (hg : glB c.sc "range" = true) (ha : PE X ea (tE Y X n Z a)) (hb : PE X eb (tE Y X n Z b)) (hs : notStar ea = true) (hs2 : notStar eb = true) :
    PI X tg (.Call (.Name "range" p) [ea, eb] [] pos) (tI Y X n Z (.rng2 a b)) := by
  obtain ⟨g1, g2⟩ := range_g G hx hg
  refine ⟨fun pins s σ H R2 I h => (pi_range2 g1 g2 (pa_cons ha (pa_cons hb pa_nil (star_cons hs2)) (star_cons hs)) (by rw [star_cons hs, star_cons hs2]; rfl) (star_cons hs2)).run pins s σ H R2 I ?_⟩
  obtain ⟨env, S, al, re, rs, h⟩ := h
  refine ⟨env, S, al, re, rs, Runs.bind h fun w S1 v H1 al1 _ st rs1 rw_ h1 => ⟨env, S1, al1, re.step st (Nat.le_refl _), rs1, h1.bind fun w2 S2 v2 H2 al2 _ st2 rs2 rw2 h2 => ?_⟩⟩
  cases w with
  | loc _ => exact h2.elim
  | d x =>
    cases x with
    | int i =>
      cases w2 with
      | loc _ => exact h2.elim
      | d y =>
        cases y with
        | int j =>
          simp only at h2
          split at h2
          · rename_i hij
            simp only [Bool.and_eq_true] at hij
            obtain ⟨b1, b2⟩ := rng_of hij.1
            obtain ⟨b3, b4⟩ := rng_of hij.2
            refine ⟨i, j, by rw [(RepD.rt rw_).int, (RepD.rt rw2).int], ⟨b1, b2, b3, b4⟩, ?_⟩
            exact h2.here (Nat.le_refl _) rs2 goes_rng
          · exact h2.elim
        | _ => exact h2.elim
    | _ => exact h2.elim
theorem rgc_pos {i j c : Int} (h1 : -(2 ^ 62) ≤ i) (h2 : i < 2 ^ 62) (h3 : -(2 ^ 62) ≤ j) (h4 : j < 2 ^ 62) (c0 : 0 < c) (c1 : c < 1000) : RgC i j c (stepN i j c) := by
  have d0 : i < j → 0 ≤ (j - i - 1) / c := fun h => Int.ediv_nonneg (by omega) (by omega)
  have d2 : i < j → (j - i - 1) / c ≤ j - i - 1 := fun h => Int.ediv_le_self _ (by omega)
  have e : Builtin.Range.rangeSize i j c = stepN i j c := by
    unfold Builtin.Range.rangeSize stepN
    rw [if_pos c0]
    split
    · have := d0 ‹_›; omega
    · rfl
  refine ⟨by omega, by omega, ?_, e⟩
  unfold Builtin.Range.small
  rw [e]
  unfold stepN
  simp only [Builtin.Range.rangeFitsLong, Bool.and_eq_true, Bool.or_eq_true, decide_eq_true_eq, beq_iff_eq, c0, if_true]
  split
  · have x0 := d0 ‹_›
    have x2 := d2 ‹_›
    generalize (j - i - 1) / c = q at *
    omega
  · omega
theorem goes_rng3 {L : Lay} {H1 : Hp} {al1 : List Addr} {i j c : Int} : Goes L (Itc i c (stepN i j c)) (stepRange i j c) H1 al1 := by
  have len : (stepRange i j c).length = stepN i j c := by simp [stepRange]
  refine ⟨fun k H al hi st => by show k < _; rw [← len]; exact hi, fun H al st => by show stepN i j c ≤ _; rw [len]; exact Nat.le_refl _, fun k H al x H' hi st th y => ?_⟩
  obtain ⟨rfl, rfl⟩ := y
  refine ⟨fun _ _ z => z, fun d ed => ?_⟩
  simp only [stepRange, List.getElem?_map, Option.map_eq_some_iff] at ed
  obtain ⟨b, eb, rfl⟩ := ed
  have hb : b = k := by
    obtain ⟨h1, h2⟩ := List.getElem?_eq_some_iff.mp eb
    simp at h2; exact h2.symm
  subst hb
  simp [RepD]
theorem i_rng3 (G : Good Y X n c Z) {a b e : Ex} {ea eb ee : Expr} (hx : ("range" : Str) ∈ Y.fre) (hg : glB c.sc "range" = true) (ha : PE X ea (tE Y X n Z a)) (hb : PE X eb (tE Y X n Z b)) (he : PE X ee (tE Y X n Z e)) (hs : notStar ea = true) (hs2 : notStar eb = true) (hs3 : notStar ee = true) :
    PI X tg (.Call (.Name "range" p) [ea, eb, ee] [] pos) (tI Y X n Z (.rng3 a b e)) := by
  obtain ⟨g1, g2⟩ := range_g G hx hg
  refine ⟨fun pins s σ H R2 I h => (pi_range3 g1 g2 (pa_cons ha (pa_cons hb (pa_cons he pa_nil (star_cons hs3)) (star_cons hs2)) (star_cons hs)) (star_cons hs) (star_any (by simp [hs2, hs3]))).run pins s σ H R2 I ?_⟩
  obtain ⟨env, S, al, re, rs, h⟩ := h
  refine ⟨env, S, al, re, rs, Runs.bind h fun w S1 v H1 al1 _ st rs1 rw_ h1 => ⟨env, S1, al1, re.step st (Nat.le_refl _), rs1, h1.bind fun w2 S2 v2 H2 al2 _ st2 rs2 rw2 h2 => ⟨env, S2, al2, (re.step st (Nat.le_refl _)).step st2 (Nat.le_refl _), rs2, h2.bind fun w3 S3 v3 H3 al3 _ st3 rs3 rw3 h3 => ?_⟩⟩⟩
  cases w with
  | loc _ => exact h3.elim
  | d x =>
    cases x with
    | int i =>
      cases w2 with
      | loc _ => exact h3.elim
      | d y =>
        cases y with
        | int j =>
          cases w3 with
          | loc _ => exact h3.elim
          | d z =>
            cases z with
            | int k =>
              simp only at h3
              split at h3
              · rename_i hij
                simp only [Bool.and_eq_true, decide_eq_true_eq] at hij
                obtain ⟨b1, b2⟩ := rng_of hij.1.1
                obtain ⟨b3, b4⟩ := rng_of hij.1.2
                refine ⟨i, j, k, stepN i j k, by rw [(RepD.rt rw_).int, (RepD.rt rw2).int, (RepD.rt rw3).int], rgc_pos b1 b2 b3 b4 hij.2.1 hij.2.2, ?_⟩
                exact h3.here (Nat.le_refl _) rs3 goes_rng3
              · exact h3.elim
            | _ => exact h3.elim
        | _ => exact h3.elim
    | _ => exact h3.elim
theorem walk_enuT {K : PySem.W.Frag} {a : Addr} {xs : List V} : Walk (Iett K a) xs.length (fun H => SqT K H a xs) (YPair (fun i => some (.int (i : Nat))) (fun i => xs[i]?)) := by
  refine ⟨fun i _ hi q => ⟨xs, xs[i], q, by simp [hi]⟩, fun _ q => ⟨xs, q, Nat.le_refl _⟩, fun i H v H' _ q y => ?_⟩
  obtain ⟨T, x, h1, h2, h3, h4⟩ := y
  exact ⟨T, .int (i : Nat), x, h1, h2, h3, rfl, h4 xs q⟩
theorem goes_enuG {L : Lay} {H1 : Hp} {al1 : List Addr} {J : L2.It} {ds : List D} {vs : List V} {G : Hp → Prop} (w : Walk J vs.length G (YPair (fun i => some (.int (i : Nat))) (fun i => vs[i]?))) (q : ∀ {H al}, Step 0 H1 al1 H al → G H) (r : RepDs L H1 al1 ds vs) : Goes L J (enumD ds) H1 al1 := by
  have len := r.length
  have len2 : (enumD ds).length = vs.length := by simp [enumD, len]
  refine ⟨fun i H al hi st => w.goes i H (by omega) (q st), fun H al st => by rw [len2]; exact w.stops H (q st), fun i H al x H' hi st th y => ?_⟩
  obtain ⟨T, u, v, rfl, hT, rfl, e1, e2⟩ := w.yields i H x H' (by omega) (q st) y
  refine ⟨keep_upd hT, fun d ed => ?_⟩
  simp only [enumD, List.getElem?_map, Option.map_eq_some_iff] at ed
  obtain ⟨p, ep, rfl⟩ := ed
  rw [List.getElem?_zipIdx] at ep
  obtain ⟨d0, ed0, rfl⟩ := Option.map_eq_some_iff.mp ep
  obtain ⟨w, ew, rw_⟩ := r.get ed0
  simp only at e1 e2
  rw [e2] at ew
  cases ew
  cases e1
  simp only [Nat.zero_add]
  refine new_tup hT th (.cons ?_ (.one (rw_.stay st.keep)))
  simp [RepD]
theorem i_enu (G : Good Y X n c Z) {a : Ex} {ea : Expr} {elts : List Expr} {kk : Nat} {tpos : Pos} (hx : ("enumerate" : Str) ∈ Y.fre) (hg : glB c.sc "enumerate" = true) (ha : PE X ea (tE Y X n Z a)) (hs : notStar ea = true) :
    PI X (.Tuple elts kk tpos) (.Call (.Name "enumerate" p) [ea] [] pos) (tI Y X n Z (.enu a)) := by
  obtain ⟨g1, g2⟩ := range_g G hx hg
  refine ⟨fun pins s σ H R2 I h => ?_⟩
  obtain ⟨env, S, al, re, rs, h⟩ := h
  have h' : Runs (Y.lay X.K X.w) al.length H al (fun H1 al1 ds J => Goes (Y.lay X.K X.w) J ds H1 al1) ((evE Y.T (callD Y.T n) a env S).bind fun w S1 => match w with
    | .d (.lst xs) => .ok (enumD xs) S1
    | .d (.tup xs) => .ok (enumD xs) S1
    | _ => .bad) R2 (AtX Z σ) := h
  cases q : evE Y.T (callD Y.T n) a env S with
  | bad => rw [q] at h'; exact h'.elim
  | ex cc vs S1 =>
    rw [q] at h'
    refine (pi_enum g1 g2 (pa_cons ha pa_nil (star_cons hs)) (star_cons hs)).run pins s σ H R2 I ⟨env, S, al, re, rs, ?_⟩
    rw [q]; exact h'
  | ok w S1 =>
    rw [q, R.bind_ok] at h'
    cases w with
    | loc _ => exact h'.elim
    | d x =>
      cases x with
      | lst ds =>
        refine (pi_enum g1 g2 (pa_cons ha pa_nil (star_cons hs)) (star_cons hs)).run pins s σ H R2 I ⟨env, S, al, re, rs, ?_⟩
        rw [q]
        intro v H1 al1 st rs1 rw_
        simp only [RepW, RepD] at rw_
        obtain ⟨a', vs, rfl, hH, hn, r⟩ := rw_
        exact ⟨a', vs, rfl, .inl (.inl hH), (Runs.on h' st st.le').here (Nat.le_refl _) rs1 (goes_enu hH hn r)⟩
      | tup ds =>
        refine (pi_enuT g1 g2 (pa_cons ha pa_nil (star_cons hs)) (star_cons hs)).run pins s σ H R2 I ⟨env, S, al, re, rs, ?_⟩
        rw [q]
        intro v H1 al1 st rs1 rw_
        simp only [RepW, RepD] at rw_
        obtain ⟨a', vs, rfl, hH, r⟩ := rw_
        have sq : SqT X.K H1 a' vs := hH.elim (fun z => .inl (.inl z.1)) .inr
        exact ⟨a', vs, rfl, sq, (Runs.on h' st st.le').here (Nat.le_refl _) rs1 (goes_enuG walk_enuT (fun st2 => hH.elim (fun z => .inl (.inl (st2.keep _ _ z.1 z.2).1)) .inr) r)⟩
      | _ => exact h'.elim
theorem i_zip (G : Good Y X n c Z) {a b : Ex} {ea eb : Expr} {elts : List Expr} {kk : Nat} {tpos : Pos} (hx : ("zip" : Str) ∈ Y.fre) (hg : glB c.sc "zip" = true) (ha : PE X ea (tE Y X n Z a)) (hb : PE X eb (tE Y X n Z b)) (hs : notStar ea = true) (hs2 : notStar eb = true) :
    PI X (.Tuple elts kk tpos) (.Call (.Name "zip" p) [ea, eb] [] pos) (tI Y X n Z (.zip a b)) := by
  obtain ⟨g1, g2⟩ := range_g G hx hg
  refine ⟨fun pins s σ H R2 I h => (pi_zipA g1 g2 (pa_cons ha (pa_cons hb pa_nil (star_cons hs2)) (star_cons hs)) (star_cons hs) (star_any (by simp [hs2]))).run pins s σ H R2 I ?_⟩
  obtain ⟨env, S, al, re, rs, h⟩ := h
  refine ⟨env, S, al, re, rs, Runs.bind h fun w S1 v H1 al1 _ st rs1 rw_ h1 => ⟨env, S1, al1, re.step st (Nat.le_refl _), rs1, h1.bind fun w2 S2 v2 H2 al2 _ st2 rs2 rw2 h2 => ?_⟩⟩
  have rw1 := rw_.step st2 (Nat.le_refl _)
  cases w with
  | loc _ => exact h2.elim
  | d x =>
    cases w2 with
    | loc _ => cases x <;> exact h2.elim
    | d y =>
      cases x <;> cases y <;> try exact h2.elim
      · simp only [RepW, RepD] at rw1 rw2
        obtain ⟨a', us, rfl, hH, r⟩ := rw1
        obtain ⟨b', vs, rfl, hH2, r2⟩ := rw2
        refine ⟨a', b', us, vs, rfl, .inr ⟨hH.elim (fun z => .inl (.inl z.1)) .inr, hH2.elim (fun z => .inl (.inl z.1)) .inr, ?_⟩⟩
        exact Runs.here (Rq := fun H1 al1 ds J => Goes (Y.lay X.K X.w) J ds H1 al1) h2 (Nat.le_refl _) rs2 (goes_zipG (G := fun H => SqT X.K H a' us ∧ SqT X.K H b' vs) (walk_zipT rfl) rfl
          (fun st => ⟨hH.elim (fun z => .inl (.inl (st.keep _ _ z.1 z.2).1)) .inr, hH2.elim (fun z => .inl (.inl (st.keep _ _ z.1 z.2).1)) .inr⟩) r r2)
      · simp only [RepW, RepD] at rw1 rw2
        obtain ⟨a', us, rfl, hH, hn, r⟩ := rw1
        obtain ⟨b', vs, rfl, hH2, hn2, r2⟩ := rw2
        refine ⟨a', b', us, vs, rfl, .inl ⟨.inl (.inl hH), .inl (.inl hH2), ?_⟩⟩
        exact Runs.here (Rq := fun H1 al1 ds J => Goes (Y.lay X.K X.w) J ds H1 al1) h2 (Nat.le_refl _) rs2 (goes_zipG (G := fun H => SqL X.K H a' us ∧ SqL X.K H b' vs) (walk_zip rfl) rfl (fun st => ⟨.inl (.inl (st.keep _ _ hH hn).1), .inl (.inl (st.keep _ _ hH2 hn2).1)⟩) r r2)
end
end Ev
end
section
/-! EvDA: names that are stored to, comprehensions. Own work. -/
set_option linter.all false
set_option autoImplicit false
set_option maxRecDepth 100000
set_option maxHeartbeats 1000000
namespace Ev
open PySem PySem.Spec PyProof.Rows L2
mutual
/-- the names of a target -/
def slotsN : Tn → List Nat
  | .name i => [i]
  | .tup ts => slotsNs ts
def slotsNs : List Tn → List Nat
  | [] => []
  | t :: ts => slotsN t ++ slotsNs ts
end
def locB (c : Sco) (x : Str) : Bool := match c.sc.names.lookup x with
  | some .local => true
  | some .cell => c.st x
  | _ => false
mutual
/-- a target of names -/
def chkN (c : Sco) : Tn → Expr → Bool
  | .name i, .Name x _ => c.N[i]? == some x && locB c x
  | .tup ts, .Tuple es _ _ => chkNs c ts es
  | _, _ => false
def chkNs (c : Sco) : List Tn → List Expr → Bool
  | [], [] => true
  | t :: ts, e :: es => notStar e && chkN c t e && chkNs c ts es
  | _, _ => false
end
section
variable {Y : Txt} {X : Cx} {n : Nat} {c : Sco} {Z : WX} {pos p : Pos}
/-- a target's reading -/
def gN (Y : Txt) (X : Cx) (t : Tn) : TG := fun v σ H Q => ∃ env S al d e, RelE (Y.lay X.K X.w) H al env σ ∧ RelS (Y.lay X.K X.w) H S al ∧ RepD (Y.lay X.K X.w) H al d v ∧ bindN t d env = some e ∧
  ∀ σ', RelE (Y.lay X.K X.w) H al e σ' → (∀ i, i ∉ slotsN t → σ'[i]? = σ[i]?) → Q σ' H
def gNs (Y : Txt) (X : Cx) (ts : List Tn) : TGs := fun vs σ H Q => ∃ env S al ds e, RelE (Y.lay X.K X.w) H al env σ ∧ RelS (Y.lay X.K X.w) H S al ∧ RepDs (Y.lay X.K X.w) H al ds vs ∧ bindNs ts ds env = some e ∧
  ∀ σ', RelE (Y.lay X.K X.w) H al e σ' → (∀ i, i ∉ slotsNs ts → σ'[i]? = σ[i]?) → Q σ' H
theorem loc_of (G : Good Y X n c Z) {x : Str} (h : locB c x = true) : Loc X.env.scope x ∧ (X.fn x = true ∨ X.env.scope.names.lookup x = some .local) := by
  rw [G.sc]
  unfold locB at h
  split at h
  · rename_i e; exact ⟨.inl e, .inr e⟩
  · rename_i e; exact ⟨.inr e, .inl (G.st x h)⟩
  · cases h
theorem asg_each {e : Expr} {es : List Expr} {env : PySem.Env} (h : notStar e = true) : assignEach (e :: es) env = (false, assign e env) :: assignEach es env := by
  cases e <;> first | rfl | cases h
theorem asg_len {env : PySem.Env} : ∀ {es : List Expr}, es.all notStar = true → (assignEach es env).length = es.length ∧ (assignEach es env).findIdx? (·.1) = none
  | [], _ => ⟨rfl, rfl⟩
  | e :: es, h => by
    simp only [List.all_cons, Bool.and_eq_true] at h
    rw [asg_each h.1]
    obtain ⟨h1, h2⟩ := asg_len (env := env) h.2
    exact ⟨by simp [h1], by rw [List.findIdx?_cons]; simp [h2]⟩
theorem chkNs_star : ∀ {ts : List Tn} {es : List Expr}, chkNs c ts es = true → es.all notStar = true ∧ es.length = ts.length
  | [], [], _ => ⟨rfl, rfl⟩
  | [], _ :: _, h => by simp [chkNs] at h
  | _ :: _, [], h => by simp [chkNs] at h
  | t :: ts, e :: es, h => by
    simp only [chkNs, Bool.and_eq_true] at h
    obtain ⟨h1, h2⟩ := chkNs_star h.2
    exact ⟨by simp [h.1.1, h1], by simp [h2]⟩
theorem bindNs_len : ∀ {ts : List Tn} {ds : List D} {env e : Env}, bindNs ts ds env = some e → ds.length = ts.length
  | [], [], _, _, _ => rfl
  | [], _ :: _, _, _, h => by simp [bindNs] at h
  | _ :: _, [], _, _, h => by simp [bindNs] at h
  | t :: ts, d :: ds, env, e, h => by
    simp only [bindNs] at h
    obtain ⟨e1, h1, h2⟩ := Option.bind_eq_some_iff.mp h
    simp [bindNs_len h2]
mutual
theorem bindN_len : ∀ {t : Tn} {d : D} {env e : Env}, bindN t d env = some e → e.length = env.length
  | .name i, d, env, e, h => by
    simp only [bindN] at h
    obtain ⟨_, h⟩ := (Option.ite_none_right_eq_some).mp h
    cases h
    simp
  | .tup ts, .tup ds, env, e, h => by
    simp only [bindN] at h
    exact bindNs_env h
  | .tup _, .non, _, _, h | .tup _, .bl _, _, _, h | .tup _, .int _, _, _, h | .tup _, .str _, _, _, h | .tup _, .lst _, _, _, h | .tup _, .scr _, _, _, h | .tup _, .dic _ _, _, _, h | .tup _, .ins _ _, _, _, h => by simp [bindN] at h
theorem bindNs_env : ∀ {ts : List Tn} {ds : List D} {env e : Env}, bindNs ts ds env = some e → e.length = env.length
  | [], [], env, e, h => by
    simp only [bindNs, Option.some.injEq] at h
    rw [h]
  | [], _ :: _, _, _, h => by simp [bindNs] at h
  | _ :: _, [], _, _, h => by simp [bindNs] at h
  | t :: ts, d :: ds, env, e, h => by
    simp only [bindNs] at h
    obtain ⟨e1, h1, h2⟩ := Option.bind_eq_some_iff.mp h
    rw [bindNs_env h2, bindN_len h1]
end
mutual
theorem g_name (G : Good Y X n c Z) : ∀ {t : Tn} {e : Expr}, chkN c t e = true → PG X e (gN Y X t)
  | .name i, e, h => by
    cases e with
    | Name x px =>
      simp only [chkN, Bool.and_eq_true, beq_iff_eq] at h
      obtain ⟨l1, l2⟩ := loc_of G h.2
      refine PG.imp (pg_name G.nd (by rw [G.names]; exact h.1) l1 l2) ?_
      rintro v σ H Q ⟨env, S, al, d, e, re, rs, rd, hb, q⟩
      simp only [bindN] at hb
      obtain ⟨hi, hb⟩ := (Option.ite_none_right_eq_some).mp hb
      cases hb
      exact q _ (re.set (w := .d d) rd) fun j hj => by
        simp only [slotsN, List.mem_singleton] at hj
        exact List.getElem?_set_ne (Ne.symm hj)
    | _ => simp [chkN] at h
  | .tup ts, e, h => by
    cases e with
    | Tuple es k pt =>
      simp only [chkN] at h
      obtain ⟨s1, s2⟩ := chkNs_star h
      obtain ⟨a1, a2⟩ := asg_len (env := X.env) s1
      refine PG.imp (pg_tup G.calm (g_names G h) a1 a2) ?_
      rintro v σ H Q ⟨env, S, al, d, e, re, rs, rd, hb, q⟩
      cases d with
      | tup ds =>
        simp only [bindN] at hb
        obtain ⟨a, vs, rfl, hq, r⟩ := (RepD.rt rd).tup
        exact ⟨a, vs, rfl, hq, by rw [← r.length, bindNs_len hb, s2], env, S, al, ds, e, re, rs, r, hb, fun σ' r' hh => q σ' r' (by simpa [slotsN] using hh)⟩
      | _ => simp [bindN] at hb
    | _ => simp [chkN] at h
theorem g_names (G : Good Y X n c Z) : ∀ {ts : List Tn} {es : List Expr}, chkNs c ts es = true → PGs X es (gNs Y X ts)
  | [], [], _ => by
    refine PGs.imp pgs_nil ?_
    rintro v σ H Q ⟨env, S, al, ds, e, re, rs, rd, hb, q⟩
    cases ds with
    | nil =>
      simp only [bindNs, Option.some.injEq] at hb
      subst hb
      exact ⟨by simpa only [RepDs] using rd, q σ re fun _ _ => rfl⟩
    | cons _ _ => simp [bindNs] at hb
  | [], _ :: _, h => by simp [chkNs] at h
  | _ :: _, [], h => by simp [chkNs] at h
  | t :: ts, e :: es, h => by
    simp only [chkNs, Bool.and_eq_true] at h
    refine PGs.imp (pgs_cons (g_name G h.1.2) (g_names G h.2) (by rw [asg_each h.1.1]; rfl)) ?_
    rintro vs σ H Q ⟨env, S, al, ds, e, re, rs, rd, hb, q⟩
    cases ds with
    | nil => simp [bindNs] at hb
    | cons d ds =>
      simp only [bindNs] at hb
      obtain ⟨e1, h1, h2⟩ := Option.bind_eq_some_iff.mp hb
      simp only [RepDs] at rd
      obtain ⟨v, us, rfl, r1, r2⟩ := rd
      refine ⟨v, us, rfl, env, S, al, d, e1, re, rs, r1, h1, fun σ1 re1 a1 => ⟨e1, S, al, ds, e, re1, rs, r2, h2, fun σ2 re2 a2 => q σ2 re2 fun i hi => ?_⟩⟩
      simp only [slotsNs, List.mem_append, not_or] at hi
      rw [a2 i hi.2, a1 i hi.1]
end

/-! ### comprehensions -/
theorem wipe_same : ∀ {vs : List Nat} {σ σ' : L2.St}, σ.length = σ'.length → (∀ i, i ∉ vs → σ'[i]? = σ[i]?) → L2.wipe σ' vs = L2.wipe σ vs := by
  intro vs σ σ' hl h
  refine List.ext_getElem? fun i => ?_
  by_cases hi : i ∈ vs
  · have key : ∀ (τ : L2.St) (vs : List Nat), i ∈ vs → (L2.wipe τ vs)[i]? = if i < τ.length then some none else none := by
      intro τ vs
      induction vs with
      | nil => intro m; cases m
      | cons v vs ih =>
        intro m
        unfold L2.wipe
        by_cases hv : v = i
        · subst hv
          by_cases hlt : v < τ.length
          · rw [List.getElem?_set_self (by rw [wipe_length]; exact hlt), if_pos hlt]
          · rw [List.getElem?_eq_none (by simp [wipe_length]; omega), if_neg hlt]
        · rw [List.getElem?_set_ne hv]
          exact ih ((List.mem_cons.mp m).resolve_left (Ne.symm hv))
    rw [key σ' vs hi, key σ vs hi, hl]
  · rw [L2.wipe_out hi, L2.wipe_out hi]
    exact h i hi
/-- a comprehension's block -/
def Sco.blk (c : Sco) (scope : Scope) : Sco := ⟨c.N, relS scope c.sc, fun x => scope.names.lookup x == some .cell⟩
theorem blk_good (G : Good Y X n c Z) {scope : Scope} (hk : scope.kind = .function) (s : Shared) (H : Hp) (C : Addr) (cl : List (Str × Addr)) (fp : List Addr) : Good Y (X.blk s H scope (compEnvC scope cl C X.env) fp) n (c.blk scope) fun _ _ _ _ => False where
  calm := G.calm
  nd := G.nd
  names := G.names
  room := G.room
  gd := G.gd
  lnk := G.lnk
  fns := G.fns
  tk := fun u s' ⟨_, _, _, _, _, _, _, _, _, _, _, _, _, _, _, _, z⟩ => z
  sc := by
    show relS scope X.env.scope = relS scope c.sc
    rw [G.sc]
  kind := hk
  st := fun x h => h
  stat := G.stat
  sig := G.sig
/-- the conditions of a comprehension -/
def tC (Y : Txt) (X : Cx) (n : Nat) (Z : WX) (o : Eo) : TT := fun σ H Q => ∃ env S al, RelE (Y.lay X.K X.w) H al env σ ∧ RelS (Y.lay X.K X.w) H S al ∧ Runs (Y.lay X.K X.w) al.length H al (fun _ _ a b => a = b) (evC Y.T (callD Y.T n) o env S) Q (AtX Z σ)
theorem c_no : PTs X [] (tC Y X n Z .no) := ⟨fun pins s σ H Q I h => pts_nil.run pins s σ H Q I (by
  obtain ⟨env, S, al, re, rs, h⟩ := h
  exact Runs.here (Rq := fun _ _ (a b : Bool) => a = b) (show Runs (Y.lay X.K X.w) _ H al _ (.ok true S) Q _ from h) (Nat.le_refl _) rs rfl)⟩
theorem c_so {e : Ex} {ea : Expr} (h : PT X ea (tT Y X n Z e)) : PTs X [ea] (tC Y X n Z (.so e)) := ⟨fun pins s σ H Q I hw => (pts_one h).run pins s σ H Q I (by
  obtain ⟨env, S, al, re, rs, h⟩ := hw
  exact ⟨env, S, al, re, rs, h⟩)⟩
/-- the turn of a comprehension -/
def turnC (T : Tab) (Φ : Phi) (tg : Tn) (cs : Eo) (elt : Ex) (own : List Nat) (env : Env) : D → Store → R (Option D) := fun x S => match bindN tg x (Ev.wipe own env) with
  | none => .bad
  | some e => (evC T Φ cs e S).bind fun k S1 => if k then (evE T Φ elt e S1).bind fun w S2 => match w with
    | .d y => .ok (some y) S2
    | .loc _ => .bad else .ok none S1
theorem cmpr_read (G : Good Y X n c Z) {m : Bool} {elt : Ex} {tg : Tn} {it : It} {cs : Eo} {own : List Nat} (ho : ∀ i ∈ slotsN tg, i ∈ own) : ∀ σ H Q, tE Y X n Z (.cmpr m elt tg it cs own) σ H Q →
    tLc (tI Y X n Z it) (gN Y X tg) (tC Y X n (fun _ _ _ _ => False) cs) (tE Y X n (fun _ _ _ _ => False) elt) own σ H Q := by
  rintro σ H Q ⟨env, S, al, re, rs, h⟩
  have h' : Runs (Y.lay X.K X.w) al.length H al (RepW (Y.lay X.K X.w)) ((evI Y.T (callD Y.T n) it env S).bind fun xs S1 => (accR (turnC Y.T (callD Y.T n) tg cs elt own env) S1.length xs (S1 ++ [.hid []])).noex.bind fun _ S2 => accE m S1.length S2) Q (AtX Z σ) := h
  refine ⟨env, S, al, re, rs, h'.bind fun ds S1 J H1 al1 _ st rs1 gs h1 => ?_⟩
  intro Dd hD
  -- the whole run
  cases qa : accR (turnC Y.T (callD Y.T n) tg cs elt own env) S1.length ds (S1 ++ [.hid []]) with
  | bad => rw [qa] at h1; exact h1.elim
  | ex _ _ _ => rw [qa] at h1; exact h1.elim
  | ok u Se =>
    rw [qa] at h1
    have h2 : Runs (Y.lay X.K X.w) al1.length H1 al1 (RepW (Y.lay X.K X.w)) (accE m S1.length Se) Q (AtX Z σ) := h1
    have len1 := rs1.len
    have re1 := re.step st (Nat.le_refl _)
    -- the walk
    have w : Walk J ds.length (fun H => ∃ al, Step 0 H1 al1 H al ∧ There H al) (fun i H x H' => ∀ al, Step 0 H1 al1 H al → There H al → (∀ a o, H a = some o → H' a = some o) ∧ ∀ d, ds[i]? = some d → RepD (Y.lay X.K X.w) H' al d x) :=
      ⟨fun i H hi ⟨al, st, _⟩ => gs.go i H al hi st, fun H ⟨al, st, _⟩ => gs.stop H al st, fun i H x H' hi _ y al st th => gs.yld i H al x H' hi st th y⟩
    have k0 : ∀ a o, H1 a = some o → upd H1 Dd (.lst []) a = some o := keep_upd hD
    have st0 : Step al1.length H1 al1 (upd H1 Dd (.lst [])) (al1 ++ [Dd]) := Step.push (Nat.le_refl _) hD k0
    have rs0 : RelS (Y.lay X.K X.w) (upd H1 Dd (.lst [])) (S1 ++ [.hid []]) (al1 ++ [Dd]) := rs1.push (o := .lst []) hD k0 ⟨[], upd_same, .nil⟩
    refine lc_it w (fun i H => ∃ S al, Step al1.length H1 al1 H al ∧ al[al1.length]? = some Dd ∧ RelS (Y.lay X.K X.w) H S al ∧ accR (turnC Y.T (callD Y.T n) tg cs elt own env) S1.length (ds.drop i) S = .ok () Se) ?_ ?_ ?_ ?_
    · exact ⟨_, _, st0, by simp, rs0, qa⟩
    · rintro i H hi ⟨S, al, st, -, rs, -⟩
      exact ⟨al, st.mono (Nat.zero_le _), fun a ha => rs.there ha⟩
    · rintro i x Hi H' hi ⟨S, al, sti, eD, rsi, qi⟩ y
      obtain ⟨kx, rx⟩ := y al (sti.mono (Nat.zero_le _)) fun a ha => rsi.there ha
      have ed : ds[i]? = some ds[i] := List.getElem?_eq_getElem hi
      have rd := rx _ ed
      have rs' := rsi.kept kx
      have st' : Step al.length Hi al H' al := Step.kept (Nat.le_refl _) kx
      rw [List.drop_eq_getElem_cons hi] at qi
      simp only [accR] at qi
      -- the target
      cases qb : bindN tg ds[i] (Ev.wipe own env) with
      | none =>
        exfalso
        rw [show turnC Y.T (callD Y.T n) tg cs elt own env ds[i] S = .bad by unfold turnC; rw [qb]] at qi
        cases qi
      | some e =>
        rw [show turnC Y.T (callD Y.T n) tg cs elt own env ds[i] S = ((evC Y.T (callD Y.T n) cs e S).bind fun k S1 => if k then (evE Y.T (callD Y.T n) elt e S1).bind fun w S2 => match w with
          | .d y => .ok (some y) S2
          | .loc _ => .bad else .ok none S1) by unfold turnC; rw [qb]] at qi
        have rew : RelE (Y.lay X.K X.w) H' al (Ev.wipe own env) (L2.wipe σ own) := RelE.step st' (Nat.le_refl _) (RelE.step sti (Nat.le_refl _) (re1.wipe own))
        refine ⟨Ev.wipe own env, S, al, ds[i], e, rew, rs', rd, qb, fun σ2 re2 a2 => ⟨?_, ?_⟩⟩
        · refine wipe_same ?_ fun j hj => ?_
          · have l1 := re2.len
            have l2 := rew.len
            rw [wipe_length] at l2
            rw [← l1, bindN_len qb, l2]
          · rw [a2 j (fun z => hj (ho j z)), L2.wipe_out hj]
        · cases qc : evC Y.T (callD Y.T n) cs e S with
          | bad => rw [qc] at qi; cases qi
          | ex _ _ _ => rw [qc] at qi; cases qi
          | ok k S2 =>
            rw [qc, R.bind_ok] at qi
            refine ⟨e, S, al, re2, rs', ?_⟩
            rw [qc]
            rintro b H3 al3 st3 rs3 rfl
            cases k with
            | false =>
              exact ⟨S2, al3, sti.trans (st'.mono sti.le' |>.trans (st3.mono sti.le')), by rw [st3.get (List.getElem?_eq_some_iff.mp eD).1]; exact eD, rs3, qi⟩
            | true =>
              cases qe : evE Y.T (callD Y.T n) elt e S2 with
              | bad => rw [if_pos rfl, qe] at qi; cases qi
              | ex _ _ _ => rw [if_pos rfl, qe] at qi; cases qi
              | ok w S3 =>
                rw [if_pos rfl, qe, R.bind_ok] at qi
                refine ⟨e, S2, al3, re2.step st3 (Nat.le_refl _), rs3, ?_⟩
                rw [qe]
                intro v H4 al4 st4 rs4 rw4
                cases w with
                | loc _ => cases qi
                | d yd =>
                  rw [R.bind_ok] at qi
                  simp only at qi
                  cases qh : S3[S1.length]? with
                  | none => rw [qh] at qi; cases qi
                  | some so =>
                    rw [qh] at qi
                    cases so with
                    | hid ys =>
                      simp only at qi
                      obtain ⟨hl, qi⟩ : ys.length < lim ∧ accR (turnC Y.T (callD Y.T n) tg cs elt own env) S1.length (ds.drop (i + 1)) (S3.set S1.length (.hid (ys ++ [yd]))) = .ok () Se := by
                        split at qi
                        · exact ⟨by assumption, qi⟩
                        · cases qi
                      have eD4 : al4[al1.length]? = some Dd := by
                        have l1 := (List.getElem?_eq_some_iff.mp eD).1
                        have e3 : al3[al1.length]? = some Dd := by rw [st3.get l1]; exact eD
                        rw [st4.get (List.getElem?_eq_some_iff.mp e3).1]; exact e3
                      rw [← len1] at qh
                      obtain ⟨acc, hacc, racc⟩ := rs4.obj _ _ _ eD4 qh
                      refine ⟨acc, hacc, by rw [← racc.length]; exact Nat.lt_of_lt_of_le hl lim_line, S3.set S1.length (.hid (ys ++ [yd])), al4, ?_, eD4, ?_, qi⟩
                      · have kk : ∀ b u, b ≠ Dd → H4 b = some u → upd H4 Dd (.lst (acc ++ [v])) b = some u := fun b u hb e => by rw [upd_ne hb]; exact e
                        have s4 : Step al1.length H1 al1 H4 al4 := sti.trans ((st'.mono sti.le').trans ((st3.mono sti.le').trans (st4.mono (Nat.le_trans sti.le' st3.le'))))
                        exact s4.trans (Step.write s4.le' (List.mem_of_getElem? eD4) kk)
                      · have kk : ∀ b u, b ≠ Dd → H4 b = some u → upd H4 Dd (.lst (acc ++ [v])) b = some u := fun b u hb e => by rw [upd_ne hb]; exact e
                        have hm : Dd ∈ al4 := List.mem_of_getElem? eD4
                        have kd : ∀ b o, H4 b = some o → b ∉ al4 → upd H4 Dd (.lst (acc ++ [v])) b = some o ∧ b ∉ al4 := fun b o e m => ⟨kk b o (fun z => m (z ▸ hm)) e, m⟩
                        rw [← len1]
                        exact rs4.write eD4 kk ⟨_, upd_same, (racc.append (.one rw4)).stay kd⟩
                    | _ => cases qi
    · rintro Hn ⟨S, al, stn, eD, rsn, qn⟩
      rw [List.drop_length] at qn
      cases qn
      unfold accE at h2
      cases qh : Se[S1.length]? with
      | none => rw [qh] at h2; exact h2.elim
      | some so =>
        rw [qh] at h2
        cases so with
        | hid ys =>
          rw [← len1] at qh h2
          obtain ⟨acc, hacc, racc⟩ := rsn.obj _ _ _ eD qh
          have hle : al1.length ≤ al.length := stn.le'
          have hlt := (List.getElem?_eq_some_iff.mp eD).1
          cases m with
          | false =>
            refine (show Runs (Y.lay X.K X.w) al1.length H1 al1 (RepW (Y.lay X.K X.w)) (.ok (.d (.lst ys)) (Se.take al1.length)) Q _ from h2) (.ref Dd) Hn (al.take al1.length) (stn.trans (Step.cutTo (Nat.le_refl _) hle)) (rsn.cutTo _) ?_
            simp only [RepW, RepD]
            exact ⟨Dd, acc, rfl, hacc, not_mem_take rsn.nd eD, racc.stay fun a o e mm => ⟨e, fun z => mm (List.mem_of_mem_take z)⟩⟩
          | true =>
            have hlS : al1.length < Se.length := by rw [← rsn.len]; exact hlt
            have e1 : Se.take al1.length ++ [.lst ys] = (Se.take (al1.length + 1)).set al1.length (.lst ys) := by
              rw [List.take_succ_eq_append_getElem hlS]
              rw [List.set_append_right _ _ (by rw [List.length_take]; omega)]
              simp [Nat.min_eq_left (Nat.le_of_lt hlS)]
            have eD' : (al.take (al1.length + 1))[al1.length]? = some Dd := by rw [List.getElem?_take_of_lt (Nat.lt_succ_self _)]; exact eD
            refine (show Runs (Y.lay X.K X.w) al1.length H1 al1 (RepW (Y.lay X.K X.w)) (.ok (.loc al1.length) (Se.take al1.length ++ [.lst ys])) Q _ from h2) (.ref Dd) Hn (al.take (al1.length + 1)) (stn.trans (Step.cutTo (Nat.le_succ _) hlt)) ?_ ⟨Dd, eD', rfl⟩
            rw [e1]
            exact (rsn.cutTo _).write eD' (fun b u _ e => e) ⟨acc, hacc, racc.stay fun a o e mm => ⟨e, fun z => mm (List.mem_of_mem_take z)⟩⟩
        | _ => exact h2.elim
/-- what a comprehension's block must be -/
structure CmOk (Y : Txt) (X : Cx) (n : Nat) (c : Sco) (elt : Ex) (tg : Tn) (cs : Eo) (own : List Nat) (ee et : Expr) (ifs : List Expr) (scope : Scope) : Prop where
  blk : blkC c.N c.sc scope (own.map fun i => (c.N.getD i "", i)) = true
  own : ∀ i ∈ slotsN tg, i ∈ own
  tg : chkN (c.blk scope) tg et = true
  cs : ∀ (X' : Cx), X'.K = X.K → X'.w = X.w → Good Y X' n (c.blk scope) (fun _ _ _ _ => False) → PTs X' ifs (tC Y X' n (fun _ _ _ _ => False) cs)
  elt : ∀ (X' : Cx), X'.K = X.K → X'.w = X.w → Good Y X' n (c.blk scope) (fun _ _ _ _ => False) → PE X' ee (tE Y X' n (fun _ _ _ _ => False) elt)
theorem own_map (own : List Nat) : (own.map fun i => ((c.N.getD i "", i) : Str × Nat)).map (·.2) = own := by rw [List.map_map]; exact List.map_id own
theorem s_cmpr (G : Good Y X n c Z) {m : Bool} {elt : Ex} {tg : Tn} {it : It} {cs : Eo} {own : List Nat} {ee et ei : Expr} {ifs : List Expr} {scope : Scope} (hi : PI X et ei (tI Y X n Z it)) (hs : ∀ x, foldedSetIterable ei X.env x = pure x) (C : CmOk Y X n c elt tg cs own ee et ifs scope) :
    PE X (.ListComp ee [⟨et, ei, ifs, 0⟩] scope pos) (tE Y X n Z (.cmpr m elt tg it cs own)) := by
  have ok : BlkOk X.N X.env.scope scope (own.map fun i => (c.N.getD i "", i)) := by rw [G.names, G.sc]; exact blkOk_by C.blk
  have key := pe_lc (pos := pos) (wi := tI Y X n Z it) (g := gN Y X tg) (tt := tC Y X n (fun _ _ _ _ => False) cs) (te := tE Y X n (fun _ _ _ _ => False) elt) G.calm G.nd hi ok (fun s H C' cl fp => g_name (blk_good G ok.kind s H C' cl fp) C.tg) (fun s H C' cl fp => C.cs _ rfl rfl (blk_good G ok.kind s H C' cl fp)) (fun s H C' cl fp => C.elt _ rfl rfl (blk_good G ok.kind s H C' cl fp)) hs
  rw [own_map] at key
  exact PE.imp key (cmpr_read G C.own)
/-- name = [..], on the name's own row -/
theorem s_setLc (G : Good Y X n c Z) {m : Bool} {elt : Ex} {tg : Tn} {it : It} {cs : Eo} {own : List Nat} {ee et ei : Expr} {ifs : List Expr} {scope : Scope} {i : Nat} {y : Str} {py spos : Pos} (hi : PI X et ei (tI Y X n Z it)) (hs : ∀ x, foldedSetIterable ei X.env x = pure x) (C : CmOk Y X n c elt tg cs own ee et ifs scope)
    (hy : c.N[i]? = some y) (hl : c.sc.names.lookup y = some .local) (h1 : (py.line == pos.line) = true) (h2 : (scope.names.any fun q => q.1 == y && (q.2 == .local || q.2 == .cell)) = false) :
    PS X (.Assign [.Name y py] (.ListComp ee [⟨et, ei, ifs, 0⟩] scope pos) spos) (tAsg (tE Y X n Z (.cmpr m elt tg it cs own)) (gName i)) := by
  have ok : BlkOk X.N X.env.scope scope (own.map fun i => (c.N.getD i "", i)) := by rw [G.names, G.sc]; exact blkOk_by C.blk
  have hl' : X.env.scope.names.lookup y = some .local := by rw [G.sc]; exact hl
  have sw := sw_true (elt := ee) (gs := [⟨et, ei, ifs, 0⟩]) (l := spos.line) (env := X.env) (by rw [G.sc]; exact G.kind) hl' h1 h2
  have key := ps_setLc (spos := spos) (wi := tI Y X n Z it) (g := gN Y X tg) (tt := tC Y X n (fun _ _ _ _ => False) cs) (te := tE Y X n (fun _ _ _ _ => False) elt) G.calm G.nd (by rw [G.names]; exact hy) hl' sw hi ok (fun s H C' cl fp => g_name (blk_good G ok.kind s H C' cl fp) C.tg) (fun s H C' cl fp => C.cs _ rfl rfl (blk_good G ok.kind s H C' cl fp)) (fun s H C' cl fp => C.elt _ rfl rfl (blk_good G ok.kind s H C' cl fp)) hs
  rw [own_map] at key
  exact PS.imp key fun D σ H h => cmpr_read G C.own _ _ _ h
end
end Ev
end
section
/-! EvDB: isinstance. Own work. -/
set_option linter.all false
set_option autoImplicit false
set_option maxRecDepth 100000
set_option maxHeartbeats 1000000
namespace Ev
open PySem PySem.Spec PyProof.Rows L2
def kiNm : Ki → Option Str
  | .int => some "int"
  | .bool => some "bool"
  | .str => some "str"
  | .list => some "list"
  | .tuple => some "tuple"
  | .dict => some "dict"
  | .cls _ => none
def kiTy : Ki → String
  | .int => "int"
  | .bool => "bool"
  | .str => "str"
  | .list => "list"
  | .tuple => "tuple"
  | .dict => "dict"
  | .cls _ => ""
def tagTy : Tag → String
  | .non => "NoneType"
  | .bl => "bool"
  | .int => "int"
  | .str => "str"
  | .tup => "tuple"
  | .lst => "list"
  | .dic => "dict"
  | .cls _ => ""
def chkKi (Y : Txt) (c : Sco) : Ki → Expr → Bool
  | .cls k, .Name x _ => decide (Y.cn[k]? = some x) && glB c.sc x
  | ki, .Name x _ => decide (kiNm ki = some x) && decide (x ∈ Y.fre) && glB c.sc x
  | _, _ => false
def kiV (Y : Txt) (K : PySem.W.Frag) : Ki → V
  | .cls k => .ref (He.ga K (Y.cn.getD k ""))
  | ki => .ty (kiTy ki)
def kiU (Y : Txt) (K : PySem.W.Frag) : Ki → Value
  | .cls k => .ref (He.ga K (Y.cn.getD k ""))
  | ki => .type (kiTy ki)
section
variable {Y : Txt} {X : Cx} {n : Nat} {c : Sco} {Z : WX} {pos p : Pos}
theorem isi_parts (G : Good Y X n c Z) {k : Nat} {x : Str} (hx : Y.cn[k]? = some x) : ∃ cl, Y.T.cls[k]? = some cl ∧ He.ga X.K (Y.cn.getD k "") = He.ga X.K x ∧
    (∀ a ∈ ["NoneType", "bool", "int", "str", "tuple", "list", "dict"], PySem.W.kitOne X.K (.type a) (.ref (He.ga X.K x)) = some false) ∧ (∀ b ∈ ["bool", "int", "str", "tuple", "list", "dict"], PySem.W.kitOne X.K (.ref (He.ga X.K x)) (.type b) = some false) ∧
    (∀ j y, Y.cn[j]? = some y → PySem.W.kitOne X.K (.ref (He.ga X.K x)) (.ref (He.ga X.K y)) = some (cl.sup.contains j)) ∧ PySem.W.findIn X.K (.ref (He.ga X.K x)) "__class__" = some (some (.builtin "object.__class__")) ∧
    PySem.W.specialIn X.K (.builtin "object.__class__") "__get__" = some (some (.builtin "getset_descriptor.__get__")) ∧ PySem.W.takesIn X.K (.builtin "object.__class__") = some true ∧ PySem.W.mroIn X.K (He.ga X.K x) (.type "object") = some true := by
  have h := G.lnk.isi
  simp only [Txt.isiB, Bool.and_eq_true, decide_eq_true_eq, List.all_eq_true] at h
  obtain ⟨hl, h⟩ := h
  have hk : k < Y.T.cls.length := by rw [← hl]; exact (List.getElem?_eq_some_iff.mp hx).1
  have m : (x, Y.T.cls[k]) ∈ Y.cn.zip Y.T.cls := by
    refine List.mem_of_getElem? (i := k) ?_
    rw [List.getElem?_zip_eq_some]
    exact ⟨hx, List.getElem?_eq_getElem hk⟩
  obtain ⟨⟨⟨⟨⟨⟨h1, h2⟩, h3⟩, h4⟩, h5⟩, h6⟩, h7⟩ := h _ m
  refine ⟨_, List.getElem?_eq_getElem hk, by rw [List.getD_eq_getElem?_getD, hx]; rfl, h1, h2, fun j y hy => ?_, h4, h5, h6, h7⟩
  exact h3 (y, j) (List.mem_zipIdx_iff_getElem?.mpr hy)
theorem cls_ga {k : Nat} : (Y.lay X.K X.w).cls k = He.ga X.K (Y.cn.getD k "") := rfl
/-- the type of a value of the core, for all kinds -/
theorem tag_ok (G : Good Y X n c Z) {S : Store} {H : Hp} {al : List Addr} {w : W} {v : V} {g : Tag} (rs : RelS (Y.lay X.K X.w) H S al) (r : RepW (Y.lay X.K X.w) H al w v) (e : tagW Y.T S w = some g) :
    ∃ t, TyX X.K H v t ∧ ((t = .type (tagTy g) ∧ ∀ k, g ≠ .cls k) ∨ ∃ k cl x, g = .cls k ∧ Y.T.cls[k]? = some cl ∧ Y.cn[k]? = some x ∧ t = .ref (He.ga X.K x)) := by
  have own : ∀ {k : Nat} {cl : Cl} {a dx : Addr} {fs : List (Str × V)}, Y.T.cls[k]? = some cl → H a = some (.ins ((Y.lay X.K X.w).cls k) dx fs) → ∃ t, TyX X.K H (.ref a) t ∧ ∃ k' cl x, Tag.cls k = .cls k' ∧ Y.T.cls[k']? = some cl ∧ Y.cn[k']? = some x ∧ t = .ref (He.ga X.K x) := by
    intro k cl a dx fs hk ha
    have hc : k < Y.cn.length := by rw [(stat_of G.stat).cn]; exact (List.getElem?_eq_some_iff.mp hk).1
    have hx := List.getElem?_eq_getElem hc
    obtain ⟨cl', h0, hg, h1, h2, h3, h4, h5, h6, h7⟩ := isi_parts G hx
    have CF := G.lnk.cls hk hx
    rw [cls_ga, hg] at ha
    have eC := CF.cls
    rw [cls_ga, hg] at eC
    exact ⟨_, .base (.ins ha eC h4 h5 h6 h7), k, cl, _, rfl, hk, hx, rfl⟩
  cases w with
  | d x =>
    cases x with
    | non => cases e; rw [(RepD.rt r).non]; exact ⟨_, .base .non, .inl ⟨rfl, fun k => nofun⟩⟩
    | bl b => cases e; rw [(RepD.rt r).bl]; exact ⟨_, .base (.bl b), .inl ⟨rfl, fun k => nofun⟩⟩
    | int i => cases e; rw [(RepD.rt r).int]; exact ⟨_, .base (.int i), .inl ⟨rfl, fun k => nofun⟩⟩
    | str s => cases e; rw [(RepD.rt r).str]; exact ⟨_, .base (.str _), .inl ⟨rfl, fun k => nofun⟩⟩
    | tup ds =>
      cases e
      simp only [RepW, RepD] at r
      obtain ⟨a, vs, rfl, hH, _⟩ := r
      rcases hH with ⟨h1, _⟩ | ⟨o, its, m, h1, h2, _⟩
      · exact ⟨_, .base (.tup h1), .inl ⟨rfl, fun k => nofun⟩⟩
      · exact ⟨_, .kTuple h1 h2, .inl ⟨rfl, fun k => nofun⟩⟩
    | lst ds =>
      cases e
      simp only [RepW, RepD] at r
      obtain ⟨a, vs, rfl, hH, _⟩ := r
      exact ⟨_, .base (.lst hH), .inl ⟨rfl, fun k => nofun⟩⟩
    | scr ns =>
      cases e
      simp only [RepW, RepD] at r
      obtain ⟨a, rfl, hH⟩ := r
      rcases hH with ⟨o, h1, _, h2⟩ | ⟨o, its, m, h1, h2, _⟩
      · rcases h2 with rfl | ⟨ob, rfl⟩
        · exact ⟨_, .base (.lst h1), .inl ⟨rfl, fun k => nofun⟩⟩
        · exact ⟨_, .base (.frz h1), .inl ⟨rfl, fun k => nofun⟩⟩
      · exact ⟨_, .kList h1 h2, .inl ⟨rfl, fun k => nofun⟩⟩
    | dic ks vs =>
      cases e
      simp only [RepW, RepD] at r
      obtain ⟨a, rfl, ⟨es, m, D, _⟩ | ⟨kvs, h1, -⟩⟩ := r
      · exact ⟨_, .kDict D.at_ rfl, .inl ⟨rfl, fun k => nofun⟩⟩
      · exact ⟨_, .base (.dK h1), .inl ⟨rfl, fun k => nofun⟩⟩
    | ins k ds =>
      simp only [RepW, RepD] at r
      obtain ⟨a, dx, fs, rfl, hH, _, hf, rr⟩ := r
      obtain ⟨cl, hk, rfl⟩ := Option.map_eq_some_iff.mp (show tagC Y.T k = some g from e)
      obtain ⟨t, h1, h2⟩ := own hk hH
      exact ⟨t, h1, .inr h2⟩
  | loc m =>
    obtain ⟨a, e1, rfl⟩ := r
    simp only [tagW] at e
    split at e
    · rename_i xs q
      cases e
      obtain ⟨vs, h1, _⟩ := rs.obj m a _ e1 q
      exact ⟨_, .base (.lst h1), .inl ⟨rfl, fun k => nofun⟩⟩
    · rename_i ks vs q
      cases e
      obtain ⟨kvs, h1, _⟩ := rs.obj m a _ e1 q
      exact ⟨_, .base (.dK h1), .inl ⟨rfl, fun k => nofun⟩⟩
    · rename_i k fs q
      obtain ⟨dx, fvs, h1, _⟩ := rs.obj m a _ e1 q
      obtain ⟨cl, hk, rfl⟩ := Option.map_eq_some_iff.mp (show tagC Y.T k = some g from e)
      obtain ⟨t, h1, h2⟩ := own hk h1
      exact ⟨t, h1, .inr h2⟩
    · cases e
theorem chkKi_cls {k : Nat} {e : Expr} (h : chkKi Y c (.cls k) e = true) : ∃ x px, e = .Name x px ∧ Y.cn[k]? = some x ∧ glB c.sc x = true := by
  cases e with
  | Name x px =>
    simp only [chkKi, Bool.and_eq_true, decide_eq_true_eq] at h
    exact ⟨x, px, rfl, h.1, h.2⟩
  | _ => simp [chkKi] at h
theorem kit_tab : ∀ (g : Tag) (ki : Ki), (∀ k, g ≠ .cls k) → (∀ k, ki ≠ .cls k) → kitB (tagTy g) (kiTy ki) = some (isK ⟨[], [], []⟩ g ki) := by
  intro g ki
  cases g <;> cases ki <;> intro h1 h2 <;> first
    | exact absurd rfl (h1 _)
    | exact absurd rfl (h2 _)
    | decide +kernel
theorem kit_ans (G : Good Y X n c Z) {t : Value} {g : Tag} (ht : (t = .type (tagTy g) ∧ ∀ k, g ≠ .cls k) ∨ ∃ k cl x, g = .cls k ∧ Y.T.cls[k]? = some cl ∧ Y.cn[k]? = some x ∧ t = .ref (He.ga X.K x)) {ki : Ki} {e : Expr} (hk : chkKi Y c ki e = true) :
    PySem.W.kitOne X.K t (kiU Y X.K ki) = some (isK Y.T g ki) := by
  rcases ht with ⟨rfl, ng⟩ | ⟨k, cl, x, rfl, ek, ex, rfl⟩
  · cases ki with
    | cls j =>
      obtain ⟨y, py, -, hy, -⟩ := chkKi_cls hk
      obtain ⟨cl, h0, hg, h1, -⟩ := isi_parts G hy
      show PySem.W.kitOne X.K _ (.ref (He.ga X.K (Y.cn.getD j ""))) = _
      rw [hg]
      cases g with
      | cls k => exact absurd rfl (ng k)
      | _ => exact h1 _ (by simp [tagTy])
    | _ =>
      cases g with
      | cls k => exact absurd rfl (ng k)
      | _ => exact kit_ty (kit_tab _ _ ng nofun)
  · obtain ⟨cl', h0, hg, h1, h2, h3, -⟩ := isi_parts G ex
    rw [ek] at h0
    cases h0
    cases ki with
    | cls j =>
      obtain ⟨y, py, -, hy, -⟩ := chkKi_cls hk
      obtain ⟨_, _, hg2, -⟩ := isi_parts G hy
      show PySem.W.kitOne X.K _ (.ref (He.ga X.K (Y.cn.getD j ""))) = _
      rw [hg2, h3 j y hy]
      simp [isK, ek]
    | _ => exact h2 _ (by simp [kiTy])
theorem kit_anys (G : Good Y X n c Z) {t : Value} {g : Tag} (ht : (t = .type (tagTy g) ∧ ∀ k, g ≠ .cls k) ∨ ∃ k cl x, g = .cls k ∧ Y.T.cls[k]? = some cl ∧ Y.cn[k]? = some x ∧ t = .ref (He.ga X.K x)) : ∀ {ks : List Ki} {es : List Expr}, ks.length = es.length → (∀ q ∈ ks.zip es, chkKi Y c q.1 q.2 = true) →
    PySem.W.kitAny X.K t (ks.map (kiU Y X.K)) = some (ks.any (isK Y.T g))
  | [], _, _, _ => kitAny_nil
  | k :: ks, [], h, _ => by simp at h
  | k :: ks, e :: es, hl, h => by
    have h1 := kit_ans G ht (h (k, e) (List.mem_cons_self ..))
    have ih := kit_anys G ht (ks := ks) (es := es) (by simpa using hl) fun q hq => h q (List.mem_cons_of_mem _ hq)
    refine kitAny_cons h1 (fun e => ?_) fun e => by simp [e]
    rw [ih]
    simp [e]
theorem ki_pe (G : Good Y X n c Z) {ki : Ki} {e : Expr} (h : chkKi Y c ki e = true) : PE X e (L2.tC (kiV Y X.K ki)) ∧ ClsV (kiV Y X.K ki) (kiU Y X.K ki) ∧ notStar e = true := by
  cases e with
  | Name x px =>
    refine ⟨?_, ?_, rfl⟩
    · cases ki with
      | cls k =>
        obtain ⟨y, py, e1, hy, hg⟩ := chkKi_cls h
        cases e1
        obtain ⟨g1, g2, -⟩ := gl_of G hg
        obtain ⟨cl, h0, hg', -⟩ := isi_parts G hy
        have CF := G.lnk.cls h0 hy
        have m := CF.glo
        exact pe_glob g1 m rfl g2
      | int | bool | str | list | tuple | dict =>
        simp only [chkKi, Bool.and_eq_true, decide_eq_true_eq, kiNm, Option.some.injEq] at h
        obtain ⟨⟨rfl, hx⟩, hg⟩ := h
        obtain ⟨g1, g2, g3⟩ := gl_of G hg
        exact pe_bltn g1 (G.lnk.free hx) (by decide +kernel) rfl g3 g2
    · cases ki with
      | cls k => exact .own _
      | _ => exact .ty _
  | _ => cases ki <;> simp [chkKi] at h
theorem isi_read (G : Good Y X n c Z) {a : Ex} {ks : List Ki} {σ : L2.St} {H : Hp} {Q : VK} {K2 : V → Hp → Prop} (h : tE Y X n Z (.isi a ks) σ H Q)
    (k : ∀ v H1 t g, TyX X.K H1 v t → ((t = .type (tagTy g) ∧ ∀ k, g ≠ .cls k) ∨ ∃ k cl x, g = .cls k ∧ Y.T.cls[k]? = some cl ∧ Y.cn[k]? = some x ∧ t = .ref (He.ga X.K x)) → (∀ H', (∀ a o, H1 a = some o → H' a = some o) → Q (.bl (ks.any (isK Y.T g))) H') → K2 v H1) : tE Y X n Z a σ H K2 := by
  obtain ⟨env, S, al, re, rs, h⟩ := h
  refine ⟨env, S, al, re, rs, Runs.bind h fun w S1 v H1 al1 _ st rs1 rw_ h1 => ?_⟩
  cases e : tagW Y.T S1 w with
  | none => rw [e] at h1; exact h1.elim
  | some g =>
    rw [e] at h1
    obtain ⟨t, ty, ht⟩ := tag_ok G rs1 rw_ e
    refine k v H1 t g ty ht fun H' kk => (opS_of h1 rs1).go H' _ kk (by simp [RepD])
theorem isi_fre (G : Good Y X n c Z) (hx : ("isinstance" : Str) ∈ Y.fre) (hg : glB c.sc "isinstance" = true) : Gl X "isinstance" ∧ X.mg "isinstance" = none := range_g G hx hg
/-- isinstance(a, T) -/
theorem s_isi1 (G : Good Y X n c Z) {a : Ex} {ea e : Expr} {ki : Ki} (hx : ("isinstance" : Str) ∈ Y.fre) (hg : glB c.sc "isinstance" = true) (ha : PE X ea (tE Y X n Z a)) (hs : notStar ea = true) (hk : chkKi Y c ki e = true) :
    PE X (.Call (.Name "isinstance" p) [ea, e] [] pos) (tE Y X n Z (.isi a [ki])) := by
  obtain ⟨g1, g2⟩ := isi_fre G hx hg
  obtain ⟨k1, k2, k3⟩ := ki_pe G hk
  refine PE.imp (pe_callB call_isi g1 g2 (by decide +kernel) (pa_cons ha (pa_cons k1 pa_nil (star_cons k3)) (star_cons hs)) (by decide) (by decide) (star_cons hs) (star_any (by simp [k3]))) fun σ H Q h => ?_
  refine isi_read G h fun v H1 t g ty ht q => ?_
  refine ⟨v, _, t, _, _, rfl, k2, ty, kit_ans G ht hk, ?_⟩
  have := q H1 fun _ _ z => z
  simpa using this
theorem pa_kis (G : Good Y X n c Z) : ∀ {ks : List Ki} {es : List Expr}, ks.length = es.length → (∀ q ∈ ks.zip es, chkKi Y c q.1 q.2 = true) → PA X es (fun _ H Q => Q (ks.map (kiV Y X.K)) H)
  | [], [], _, _ => PA.imp pa_nil fun _ _ _ h => h
  | [], _ :: _, h, _ => by simp at h
  | _ :: _, [], h, _ => by simp at h
  | k :: ks, e :: es, hl, h => by
    obtain ⟨k1, k2, k3⟩ := ki_pe G (h (k, e) (List.mem_cons_self ..))
    exact PA.imp (pa_cons k1 (pa_kis G (ks := ks) (es := es) (by simpa using hl) fun q hq => h q (List.mem_cons_of_mem _ hq)) (star_cons k3)) fun _ _ _ h => h
theorem kis_cls : ∀ ks : List Ki, Paired ClsV (ks.map (kiV Y X.K)) (ks.map (kiU Y X.K))
  | [] => .nil
  | k :: ks => .cons (by cases k <;> first | exact .ty _ | exact .own _) (kis_cls ks)
/-- isinstance(a, (T, U, ..)) -/
theorem s_isiT (G : Good Y X n c Z) {a : Ex} {ea : Expr} {es : List Expr} {ks : List Ki} {kt : Nat} {pt : Pos} (hx : ("isinstance" : Str) ∈ Y.fre) (hg : glB c.sc "isinstance" = true) (ha : PE X ea (tE Y X n Z a)) (hs : notStar ea = true)
    (hl : ks.length = es.length) (hz : ks.length ≤ 4000) (hk : ∀ q ∈ ks.zip es, chkKi Y c q.1 q.2 = true) : PE X (.Call (.Name "isinstance" p) [ea, .Tuple es kt pt] [] pos) (tE Y X n Z (.isi a ks)) := by
  obtain ⟨g1, g2⟩ := isi_fre G hx hg
  refine PE.imp (pe_callB call_isiT g1 g2 (by decide +kernel) (pa_cons ha (pa_cons (pe_tup (pa_kis G hl hk)) pa_nil (star_cons rfl)) (star_cons hs)) (by decide) (by decide) (star_cons hs) (star_any rfl)) fun σ H Q h => ?_
  refine isi_read G h fun v H1 t g ty ht q => ⟨by rw [List.length_map]; exact lim_of hz, fun pp hp => ?_⟩
  have ty' : TyX X.K (upd H1 pp (.tup (ks.map (kiV Y X.K)))) v t := by
    have kk := keep_upd (o := HO.tup (ks.map (kiV Y X.K))) hp
    cases ty with
    | base b =>
      cases b with
      | non => exact .base .non
      | bl x => exact .base (.bl x)
      | int x => exact .base (.int x)
      | str x => exact .base (.str x)
      | flt x => exact .base (.flt x)
      | lst e => exact .base (.lst (kk _ _ e))
      | frz e => exact .base (.frz (kk _ _ e))
      | tup e => exact .base (.tup (kk _ _ e))
      | dK e => exact .base (.dK (kk _ _ e))
      | dT e => exact .base (.dT (kk _ _ e))
      | ins e a1 a2 a3 a4 a5 => exact .base (.ins (kk _ _ e) a1 a2 a3 a4 a5)
    | byt b => exact .byt b
    | set e => exact .set (kk _ _ e)
    | kList e1 e2 => exact .kList e1 e2
    | kTuple e1 e2 => exact .kTuple e1 e2
    | kDict e1 e2 => exact .kDict e1 e2
    | fTuple e => exact .fTuple (kk _ _ e)
    | fDict e => exact .fDict (kk _ _ e)
  exact ⟨v, pp, _, t, _, _, rfl, upd_same, kis_cls ks, ty', kit_anys G ht hl hk, q _ (keep_upd hp)⟩
end
end Ev
end
section
/-! EvDK: comparisons, the own == ; repr and str. Own work. -/
set_option linter.all false
set_option autoImplicit false
set_option maxRecDepth 100000
set_option maxHeartbeats 1000000
namespace Ev
open PySem PySem.Spec PyProof.Rows L2
section
open PySem.W PySem.Calls
variable {prog : Program} {w : World} {A : Around} {E : Value → Shared → Prop} {s : Shared} {K : PySem.W.Frag} {x C Lr f : Addr} {h₀ : Heap} {m : Str → Option Value} {ox : Obj} {od : Option Obj} {nm : Str} {b tb : Value} {id : String} {Q : Value → Shared → Prop}
theorem look_at {M : Model} {h : Heap} {a : Addr} {o : Obj} {T : Value} (e : h.get? a = some o) (c : o.cls = T) : Looks M h (typeOf (.ref a)) T := by
  subst c
  exact (PySem.W.Looks.ld e).andThen .now
/-- a builtin's slot that a class has from object, looked up and called -/
theorem slot_call {M : Model} {us : List Value} {Q : Option Value → Shared → Prop} (X : K.In s.heap) (I : InstAt s.heap x ox C od) (hs : findIn K (.ref C) nm = some (some (.builtin id))) (hb : ∀ v, bindSpecial (.builtin id) v = pure (.builtin id, [v]))
    (h : wpAny M A (call (.builtin id) (.ref x :: us)) (fun v => Q (some v)) E s) : wpAny M A (callSpecialIfBound? (.ref x) nm us) Q E s := by
  have go : wpAny M A (call (.builtin id) ([.ref x] ++ us) >>= fun v => pure (some v)) Q E s := wpAny_bind (wpAny_mono h (fun v s' q => wpAny_pure q) fun _ _ q => q)
  have one := Looks.of_pure (M := M) (h := s.heap) (hb (.ref x))
  unfold callSpecialIfBound? bindSpecialIfBound?
  refine wpAny_holding (wpAny_bind (wpAny_bind (wpAny_bind (I.type.here ((PySem.W.looks_findIn X hs).here (wpAny_bind (wpAny_askSetting (wpAny_ite ?_))))))))
  split
  · exact wpAny_bind (one.here (wpAny_pure go))
  · exact wpAny_tryCatch (wpAny_bind (one.here (wpAny_pure go)))
/-- a != b by object's own, which asks the class's == -/
theorem ne_own (hu : A.units < cLine) (hu1 : A.in1.units < cLine) (X : K.In s.heap) (I : InstAt s.heap x ox C od) (hb : Looks (model prog w) s.heap (typeOf b) tb) (hn : notFirst K C tb = true)
    (hne : findIn K (.ref C) "__ne__" = some (some (.builtin "object.__ne__"))) (hm : mroIn K C (.type "object") = some true) (hs : findIn K (.ref C) "__eq__" = some (some (.ref f))) (hf : isFn K (.ref f) = true)
    (h : wpAny (model prog w) A.in1 (call (.ref f) [.ref x, b]) (fun v s' => ∃ k, v = .bool k ∧ Q (.bool (!k)) s') E s) : wpAny (model prog w) A (richCompare .NotEq (.ref x) b) Q E s := by
  have inner : wpAny (model prog w) A (call (.builtin "object.__ne__") (.ref x :: [b])) (fun v s' => ∃ k, v = .bool k ∧ Q v s') E s := by
    refine wpAny_call (codeAny_call_builtin PySem.F.slot_object_ne.plain PySem.F.entry_object_ne (check_slot (owner := "object") (n := "__ne__") (by decide +kernel) (by decide +kernel) (I.type.andThen (looks_mroIn X hm)) (PySem.F.args_object_ne_2 _ _) ?_))
    unfold Builtin.«object.__ne__»
    refine wpAny_bind (m := slotArgs "__ne__" 1 _) (wpAny_pure (wpAny_bind (m := cRoomFor _ _) (wpAny_cRoomFor hu1 ?_)))
    refine wpAny_bind (m := callSpecialIfBound? (.ref x) (Str.ofString "__eq__") _) (ifBound_K X I hs hf (wpAny_mono h (fun v s' q => ?_) fun _ _ q => q))
    obtain ⟨k, rfl, q⟩ := q
    exact wpAny_bind (wpAny_truthy_bool (wpAny_pure ⟨_, rfl, q⟩))
  have one : wpAny (model prog w) A (tryCompare (.ref x) "__ne__" b) (fun r s' => ∃ v, r = some v ∧ Q v s') E s := by
    unfold tryCompare
    refine wpAny_bind (slot_call X I hne PySem.F.slot_object_ne.bind (wpAny_mono inner (fun v s' q => ?_) fun _ _ q => q))
    obtain ⟨k, rfl, q⟩ := q
    exact wpAny_pure ⟨_, rfl, q⟩
  unfold richCompare
  simp only [oneThing_ref]
  refine wpAny_holding (wpAny_bind (wpAny_cRoomFor hu (wpAny_bind (I.type.here (wpAny_bind (hb.here ?_))))))
  have last : wpAny (model prog w) A (tryCompare (.ref x) "__ne__" b) (fun r s' => ∃ v, r = some v ∧ Q v s') E s := one
  split
  · rename_i q
    have e : subIn K tb (.ref C) = some false := (Bool.or_eq_true_iff.mp hn).elim (fun e => absurd q (by rw [beq_iff_eq.mp e]; simp)) fun e => beq_iff_eq.mp e
    refine wpAny_bind ((looks_subIn X e).here ?_); simp only [Bool.false_eq_true, if_false]
    exact wpAny_bind (wpAny_mono last (fun r s' ⟨v, e, q⟩ => by subst e; exact wpAny_pure q) fun _ _ q => q)
  · refine wpAny_bind (wpAny_pure ?_); simp only [Bool.false_eq_true, if_false]
    exact wpAny_bind (wpAny_mono last (fun r s' ⟨v, e, q⟩ => by subst e; exact wpAny_pure q) fun _ _ q => q)
end
section
variable {Y : Txt} {X : Cx} {n : Nat} {c : Sco} {Z : WX} {pos apos p : Pos} {args : List Expr} {es : Exs} {pins : List (Addr × Obj)} {σ : L2.St} {H : Hp} {s : Shared}
/-- the type of a value, as the model looks at it -/
theorem look_ty {x : V} {v t : Value} (I : Inv X pins σ H s) (rx : RelV x v) (ty : TyX X.K H x t) : PySem.W.Looks (model X.prog X.w) s.heap (typeOf v) t := by
  cases ty with
  | base b =>
    cases b with
    | non => cases (show v = Value.none from rx); exact PySem.W.Looks.of_pure rfl
    | bl y => cases (show v = Value.bool y from rx); exact PySem.W.Looks.of_pure rfl
    | int i => obtain ⟨t, q⟩ := (show ∃ t, v = Value.int i t from rx); cases q; exact PySem.W.Looks.of_pure rfl
    | str y => obtain ⟨t, q⟩ := (show ∃ t, v = Value.str y t from rx); cases q; exact PySem.W.Looks.of_pure rfl
    | flt y => obtain ⟨t, q⟩ := (show ∃ t, v = Value.float y t from rx); cases q; exact PySem.W.Looks.of_pure rfl
    | @lst a xs ea =>
      cases (show v = Value.ref a from rx)
      obtain ⟨_, _, n, _, h1⟩ := (show ObjOk X.prog X.w H s.heap a (.lst xs) from I.hok a _ ea)
      exact look_at h1 rfl
    | @frz a ob xs ea =>
      cases (show v = Value.ref a from rx)
      obtain ⟨_, _, _, n, _, h1⟩ := (show ObjOk X.prog X.w H s.heap a (.frz ob (.lst xs)) from I.hok a _ ea)
      exact look_at h1 rfl
    | @tup a xs ea =>
      cases (show v = Value.ref a from rx)
      obtain ⟨_, _, _, o, h1, h2, _⟩ := (show ObjOk X.prog X.w H s.heap a (.tup xs) from I.hok a _ ea)
      exact look_at h1 h2
    | @dK a kvs ea =>
      cases (show v = Value.ref a from rx)
      obtain ⟨_, _, vs, _, o, es, ep, h1, h2, _⟩ := (show ObjOk X.prog X.w H s.heap a (.dK kvs) from I.hok a _ ea)
      exact look_at h1 h2.1
    | @dT a kvs ea =>
      cases (show v = Value.ref a from rx)
      obtain ⟨_, _, xs, _, o, es, ep, h1, h2, _⟩ := (show ObjOk X.prog X.w H s.heap a (.dT kvs) from I.hok a _ ea)
      exact look_at h1 h2.1
    | @ins a C dx fs ea cl ha hn htk hm =>
      cases (show v = Value.ref a from rx)
      obtain ⟨mA, O, _⟩ := ins_get I.hok ea
      obtain ⟨od, J, _⟩ := O.look
      exact J.type
  | byt y => obtain ⟨t, q⟩ := (show ∃ t, v = Value.bytes y t from rx); cases q; exact PySem.W.Looks.of_pure rfl
  | @set a S n ea =>
    cases (show v = Value.ref a from rx)
    obtain ⟨o, _, _, _, e, ex, _⟩ := I.hok a _ ea
    exact look_at e ex.1
  | @kList a o e c =>
    cases (show v = Value.ref a from rx)
    exact look_at (I.kIn a o e) c
  | @kTuple a o e c =>
    cases (show v = Value.ref a from rx)
    exact look_at (I.kIn a o e) c
  | @kDict a o e c =>
    cases (show v = Value.ref a from rx)
    exact look_at (I.kIn a o e) c
  | @fTuple a ob xs ea =>
    cases (show v = Value.ref a from rx)
    obtain ⟨_, _, _, _, o, h1, h2, _⟩ := (show ObjOk X.prog X.w H s.heap a (.frz ob (.tup xs)) from I.hok a _ ea)
    exact look_at h1 h2
  | @fDict a ob kvs ea =>
    cases (show v = Value.ref a from rx)
    obtain ⟨_, _, _, vs, _, o, es, ep, h1, h2, _⟩ := (show ObjOk X.prog X.w H s.heap a (.frz ob (.dK kvs)) from I.hok a _ ea)
    exact look_at h1 h2.1
/-- a def is called by the model itself, somewhere below the running body -/
theorem own_run {A : Around} {k : Nat} {f : Addr} {fd : FuncData} {ps : List Str} {sp : Sp} {us us' : List Value} {vs : List V} {Q : VK} {E' : Value → Shared → Prop} {Q' : Value → Shared → Prop} (F : FnG X.prog X.w X.K X.mg X.base k f fd ps sp) (hr : Room k A) (gd : A.guards = some [])
    (e0 : Env0 X.prog X.w X.K X.mg X.base A X.stack s H) (I : Inv X pins σ H s) (hl : us.length = ps.length) (hb : BindsTo s fd ⟨us', []⟩ (ps.zip us)) (rv : Vals vs us) (h : sp vs H Q fun _ _ _ => False) (hq : ∀ u s', EP X pins σ Q u s' → Q' u s') :
    wpAny (model X.prog X.w) A (call (.ref f) us') Q' E' s := by
  refine wpAny_call (codeAny_mono (F.run A X.stack s H _ us vs Q (fun _ _ _ => False) hr gd e0 hl hb rv h) fun r s' q => ?_)
  cases r with
  | error er =>
    obtain ⟨_, _, _, _, _, _, _, _, _, _, _, _, z⟩ := q
    exact z.elim
  | ok fl =>
    cases fl with
    | ret u => exact hq u s' (I.after q)
    | next => exact q.elim
    | brk => exact q.elim
    | cont => exact q.elim
theorem Runs.noexE {α β : Type} {L : Lay} {m : Nat} {al : List Addr} {Rp : Hp → List Addr → α → β → Prop} {k : R α} {Q : β → Hp → Prop} {E E' : XK} (h : Runs L m H al Rp k.noex Q E) : Runs L m H al Rp k.noex Q E' := by
  cases k with
  | ok a S => exact h
  | ex c vs S => exact h.elim
  | bad => exact h
/-- an own def of the class, called with values of the core -/
theorem own_g (G : Good Y X n c Z) {A : Around} {g : Nat} {m : Nat} {ws : List W} {S : Store} {al : List Addr} {vs : List V} {us : List Value} {Q : VK} {E' : Value → Shared → Prop} {Q' : Value → Shared → Prop} (need : ∀ d, Y.defs[g]? = some d → srcNeed d m = true) (lw : ws.length = m)
    (hr : Room (4 * n) A) (gd : A.guards = some []) (e0 : Env0 X.prog X.w X.K X.mg X.base A X.stack s H) (I : Inv X pins σ H s) (rs : RelS (Y.lay X.K X.w) H S al) (rw_ : RepWs (Y.lay X.K X.w) H al ws vs) (rv : Vals vs us)
    (h : Runs (Y.lay X.K X.w) al.length H al (RepW (Y.lay X.K X.w)) (callD Y.T n g ws S).noex Q fun _ _ _ => False) (hq : ∀ u s', EP X pins σ Q u s' → Q' u s') : ∃ d, Y.defs[g]? = some d ∧ wpAny (model X.prog X.w) A (call (.ref (Y.ad X.K g)) us) Q' E' s := by
  obtain ⟨d, hd⟩ := call_def G.sig (n := n) (g := g) (ws := ws) (S := S) (fun e => by rw [e] at h; exact h)
  refine ⟨d, hd, ?_⟩
  rw [Txt.ad_of hd]
  obtain ⟨fd, hF⟩ := G.lnk.def_ hd
  obtain ⟨fn, hfn, h1, h2, -⟩ := sig_of G.sig hd
  obtain ⟨gs, gus, r1, r2, r3, r4⟩ := args_of (K := X.K) (g := g) (m := m) (ks := []) (sp := []) (ws := ws) (zs := []) (fs := ws) (us := us) (uz := []) hF h1 hfn h2 (srcNeed_sp (need d hd)) rfl rw_ .nil rv .nil (by rw [← rv.length, ← rw_.length, lw]) rfl
  exact own_run (G.fns g d hd fd hF) hr gd e0 I r3 (r4 s I.kIn) r2 ⟨ws, S, al, rs, r1, h.noex _⟩ hq
/-- a comparison of two values of the core -/
def rCmp (Y : Txt) (X : Cx) (n : Nat) (E : XK) (o : COp) : R2 := fun u v H Q => ∃ x y S al, RelS (Y.lay X.K X.w) H S al ∧ RepW (Y.lay X.K X.w) H al x u ∧ RepW (Y.lay X.K X.w) H al y v ∧ Runs (Y.lay X.K X.w) al.length H al (RepW (Y.lay X.K X.w)) (cmpW Y.T (callD Y.T n) o x y S) Q E
theorem need_of {m g : Nat} {o : Option Nat} (h : needO Y m o = true) (e : o = some g) : ∀ d, Y.defs[g]? = some d → srcNeed d m = true := by
  subst e
  intro d hd
  simpa [needO, hd] using h
theorem spec_some {S : Store} {w : W} {sel : Cl → Option Nat} {g : Nat} (e : spec Y.T sel S w = some g) : ∃ cc k, clsOf S w = some cc ∧ Y.T.cls[cc]? = some k ∧ sel k = some g := by
  obtain ⟨cc, h1, e⟩ := Option.bind_eq_some_iff.mp e
  obtain ⟨k, h2, e⟩ := Option.bind_eq_some_iff.mp e
  exact ⟨cc, k, h1, h2, e⟩
/-- the two ways that an own == is asked -/
theorem own_eq (G : Good Y X n c Z) {f : Bool → Bool} {g : Nat} {x y : W} {u v : V} {vu vv : Value} {S : Store} {al : List Addr} {Q : VK} {E : XK} (e : spec Y.T Cl.eqf S x = some g) (I : Inv X pins σ H s) (ru : RelV u vu) (rv : RelV v vv) (rs : RelS (Y.lay X.K X.w) H S al)
    (rx : RepW (Y.lay X.K X.w) H al x u) (ry : RepW (Y.lay X.K X.w) H al y v) (h : Runs (Y.lay X.K X.w) al.length H al (RepW (Y.lay X.K X.w)) ((R.of (tagW Y.T S y) S).bind fun _ S0 => (callD Y.T n g [x, y] S0).noex.bind fun r S1 => (asBl r S1).bind fun k S2 => .ok (.d (.bl (f k))) S2) Q E) :
    ∃ a C t ox od, vu = .ref a ∧ PySem.W.InstAt s.heap a ox C od ∧ EqF Y X.K C (Y.ad X.K g) ∧ PySem.W.Looks (model X.prog X.w) s.heap (typeOf vv) t ∧ PySem.W.notFirst X.K C t = true ∧
      ∀ (A : Around) (E' : Value → Shared → Prop), Room (4 * n) A → A.guards = some [] → Env0 X.prog X.w X.K X.mg X.base A X.stack s H → wpAny (model X.prog X.w) A (call (.ref (Y.ad X.K g)) [.ref a, vv]) (fun w s' => ∃ k, w = .bool k ∧ EP X pins σ Q (.bool (f k)) s') E' s := by
  obtain ⟨cc, k, ec, ek, eg⟩ := spec_some e
  obtain ⟨a, dx, fs, rfl, ea⟩ := ins_at rs rx ec
  cases ru
  obtain ⟨xn, CF⟩ := cls_get G ek
  have km := List.mem_of_getElem? ek
  obtain ⟨tg, et, h1⟩ := h.of_bind
  obtain ⟨t, ht, alt⟩ := tag_ok G rs ry et
  obtain ⟨mA, O, -⟩ := ins_get I.hok ea
  obtain ⟨od, J, -⟩ := O.look
  have EF := CF.eq g eg
  refine ⟨a, _, t, _, _, rfl, J, EF, look_ty I rv ht, ?_, fun A E' hr gd e0 => ?_⟩
  · rcases alt with ⟨rfl, ng⟩ | ⟨k', cl, x', rfl, -, ex, rfl⟩
    · refine EF.tys _ ?_
      cases tg <;> first | exact absurd rfl (ng _) | simp [tagTy]
    · exact EF.own _ (List.mem_of_getElem? ex)
  · have hw : Runs (Y.lay X.K X.w) al.length H al (RepW (Y.lay X.K X.w)) (callD Y.T n g [x, y] S).noex (fun w H' => ∃ k, w = .bl k ∧ Q (.bl (f k)) H') fun _ _ _ => False := Runs.noexE (Runs.bind h1 fun r S1 w H1 al1 _ st rs1 rr h2 => by
      obtain ⟨b, rfl, h3⟩ := asBl_of h2 rr
      exact ⟨b, rfl, h3.here (Nat.le_refl _) rs1 (by simp [RepW, RepD])⟩)
    have hq : ∀ w s', EP X pins σ (fun w H' => ∃ k, w = .bl k ∧ Q (.bl (f k)) H') w s' → ∃ k, w = .bool k ∧ EP X pins σ Q (.bool (f k)) s' := by
      rintro w s' ⟨z, H', I', rz, b, rfl, q⟩
      cases (show w = Value.bool b from rz)
      exact ⟨b, rfl, .bl (f b), H', I', rfl, q⟩
    obtain ⟨d, -, hr⟩ := own_g G (E' := E') (need_of (own_of G.sig km).1 eg) rfl hr gd e0 I rs (.cons rx (.cons ry .nil)) (.cons rfl (.cons rv .nil)) hw hq
    exact hr
theorem or_cmpW (G : Good Y X n c Z) {E : XK} (o : COp) : OpR X (compareOp (cOp o)) (rCmp Y X n E o) := by
  rintro pins s σ H u v vu vv Q I ru rv ⟨x, y, S, al, rs, rx, ry, h⟩
  have old : Runs (Y.lay X.K X.w) al.length H al (RepW (Y.lay X.K X.w)) (match rd S x, rd S y with
    | some x, some y => (R.of (cmp o x y) S).bind fun z S => .ok (.d z) S
    | _, _ => .bad) Q E → wpAny (model X.prog X.w) X.A (compareOp (cOp o) vu vv) (EP X pins σ Q) X.xe s := fun h2 => by
    refine or_cmp (L := Y.lay X.K X.w) lay_K lay_w (by have := G.room.un; omega) o pins s σ H u v vu vv Q I ru rv ?_
    split at h2
    · rename_i d d' e1 e2
      obtain ⟨z, ez, h3⟩ := h2.of_bind
      exact ⟨d, d', z, S, al, rx.rt rs e1, ry.rt rs e2, ez, opS_of h3 rs⟩
    · exact h2.elim
  unfold cmpW at h
  cases e : spec Y.T Cl.eqf S x with
  | none =>
    rw [e] at h
    cases o <;> exact old h
  | some g =>
    rw [e] at h
    obtain ⟨m, hF⟩ := I.fr
    have hu := G.room.un
    cases o with
    | eq =>
      obtain ⟨a, C, t, ox, od, rfl, J, EF, lk, nf, run⟩ := own_eq G (f := fun k => k) e I ru rv rs rx ry h
      show wpAny _ _ (richCompare .Eq _ _) _ _ _
      refine PySem.W.cmp_K (op := .Eq) G.room.units0 hF I.ok.mod.kin J lk nf EF.m.at_ EF.m.fn (wpAny_mono (run X.A X.xe (G.room.mono (by omega)) G.gd I.env0) (fun w s' q => ?_) fun _ _ q => q)
      obtain ⟨k, rfl, q⟩ := q
      exact q
    | ne =>
      obtain ⟨a, C, t, ox, od, rfl, J, EF, lk, nf, run⟩ := own_eq G (f := fun k => !k) e I ru rv rs rx ry h
      show wpAny _ _ (richCompare .NotEq _ _) _ _ _
      exact ne_own G.room.units0 (by show X.A.units + 1 < _; omega) I.kIn J lk nf EF.ne EF.ob EF.m.at_ EF.m.fn (run X.A.in1 X.xe (G.room.mono (j := 4 * n + 1) (by omega)).in1 G.gd I.env0.in1)
    | _ => exact old h
theorem s_cmp (G : Good Y X n c Z) {o : COp} {a b : Ex} {ea eb : Expr} (ha : PE X ea (tE Y X n Z a)) (hb : PE X eb (tE Y X n Z b)) (hm : behindInMarks (cOp o) eb = false) : PE X (.Compare ea [cOp o] [eb] pos) (tE Y X n Z (.cmp o a b)) :=
  ⟨fun pins s σ H Q I h => (PE.imp (pe_cmpR (pos := pos) (or_cmpW G (E := AtX Z σ) o) ha hb hm) (t' := fun σ' H' Q' => σ' = σ ∧ tE Y X n Z (.cmp o a b) σ' H' Q') (by
    rintro σ' H Q ⟨rfl, h'⟩
    obtain ⟨env, S, al, re, rs, h⟩ := h'
    exact two ⟨env, S, al, re, rs, h⟩ fun x y S u v H2 al rs rx ry h2 => ⟨x, y, S, al, rs, rx, ry, h2⟩)).run pins s σ H Q I ⟨rfl, h⟩⟩
theorem cmp_bl {o : COp} {x y z : D} (h : cmp o x y = some z) : ∃ b, z = .bl b := by
  unfold cmp at h
  split at h <;> first
    | contradiction
    | (cases h; exact ⟨_, rfl⟩)
    | (split at h <;> first | contradiction | (cases h; exact ⟨_, rfl⟩))
theorem s_chn (G : Good Y X n c Z) {o p : COp} {a b d : Ex} {ea eb ed : Expr} (ha : PE X ea (tE Y X n Z a)) (hb : PE X eb (tE Y X n Z b)) (hd : PE X ed (tE Y X n Z d)) (hm : lastMarks [cOp o, cOp p] [eb, ed] = false) :
    PE X (.Compare ea [cOp o, cOp p] [eb, ed] pos) (tE Y X n Z (.chn o p a b d)) :=
  ⟨fun pins s σ H Q I h => (PE.imp (pe_chain (pos := pos) (or_cmpW G (E := AtX Z σ) o) (or_cmpW G (E := AtX Z σ) p) ha hb hd hm) (t' := fun σ' H' Q' => σ' = σ ∧ tE Y X n Z (.chn o p a b d) σ' H' Q') (by
    rintro σ' H Q ⟨rfl, env, S, al, re, rs, h⟩
    refine ⟨env, S, al, re, rs, Runs.bind h fun x S1 u H1 al1 _ st rs1 rx h1 => ⟨env, S1, al1, re.step st (Nat.le_refl _), rs1, h1.bind fun y S2 v H2 al2 _ st2 rs2 ry h2 => ?_⟩⟩
    refine ⟨x, y, S2, al2, rs2, rx.step st2 (Nat.le_refl _), ry, h2.bind fun r S3 z H3 al3 _ st3 rs3 rz h3 => ?_⟩
    obtain ⟨k, rfl, h4⟩ := asBl_of h3 rz
    refine ⟨k, rfl, ?_⟩
    cases k with
    | true =>
      refine ⟨env, S3, al3, ((re.step st (Nat.le_refl _)).step st2 (Nat.le_refl _)).step st3 (Nat.le_refl _), rs3, Runs.bind h4 fun w S5 t H4 al4 _ st4 rs4 rw_ h5 => ?_⟩
      exact ⟨y, w, S5, al4, rs4, (ry.step st3 (Nat.le_refl _)).step st4 (Nat.le_refl _), rw_, h5⟩
    | false => exact Runs.here (show Runs (Y.lay X.K X.w) _ H3 al3 (RepW (Y.lay X.K X.w)) (.ok (.d (.bl false)) S3) Q _ from h4) (Nat.le_refl _) rs3 (by simp [RepW, RepD]))).run pins s σ H Q I ⟨rfl, h⟩⟩

/-! ### repr and str -/
/-- repr(x), str(x) of a value of the core -/
def rBi (Y : Txt) (X : Cx) (n : Nat) (b : Bi) : List V → Hp → VK → Prop := fun us H Q => ∃ ws S al E, RelS (Y.lay X.K X.w) H S al ∧ RepWs (Y.lay X.K X.w) H al ws us ∧ Runs (Y.lay X.K X.w) al.length H al (RepW (Y.lay X.K X.w)) (biW Y.T (callD Y.T n) b ws S) Q E
theorem asStr_of {L : Lay} {m : Nat} {H : Hp} {al : List Addr} {S : Store} {x : W} {Q : VK} {E : XK} (h : Runs L m H al (RepW L) (asStr x S) Q E) (hm : m ≤ al.length) (rs : RelS L H S al) {v : V} (r : RepW L H al x v) : ∃ t, v = .str t ∧ Q v H := by
  cases x with
  | loc k => exact h.elim
  | d z =>
    cases z with
    | str s =>
      have e : v = .str (tx s) := by
        simp only [RepW, RepD] at r
        exact r.1
      exact ⟨_, e, Runs.here h hm rs r⟩
    | _ => exact h.elim
theorem rdl {S : Store} : ∀ {ws : List W} {ds : List D}, rds S ws = some ds → ds.length = ws.length
  | [], _, e => by cases e; rfl
  | w :: ws, _, e => by
    obtain ⟨x, -, e⟩ := Option.bind_eq_some_iff.mp e
    obtain ⟨xs, e2, rfl⟩ := Option.map_eq_some_iff.mp e
    simp [rdl e2]
theorem bi_one {T : Tab} {Φ : Phi} {b : Bi} {ws : List W} {S : Store} {L : Lay} {m : Nat} {H : Hp} {al : List Addr} {Q : VK} {E : XK} (hb : b = .repr ∨ b = .str) (h : Runs L m H al (RepW L) (biW T Φ b ws S) Q E) : ∃ w, ws = [w] := by
  cases ws with
  | nil => rcases hb with rfl | rfl <;> exact h.elim
  | cons w ws =>
    cases ws with
    | nil => exact ⟨w, rfl⟩
    | cons w2 ws =>
      rcases hb with rfl | rfl
      · obtain ⟨z, ez, _⟩ := h.of_bind
        obtain ⟨ds, e1, e2⟩ := Option.bind_eq_some_iff.mp ez
        have l : ds.length = (w :: w2 :: ws).length := rdl e1
        match ds, l with
        | d1 :: d2 :: ds, _ => cases e2
      · obtain ⟨z, ez, _⟩ := h.of_bind
        obtain ⟨ds, e1, e2⟩ := Option.bind_eq_some_iff.mp ez
        have l : ds.length = (w :: w2 :: ws).length := rdl e1
        match ds, l with
        | d1 :: d2 :: ds, _ => cases d1 <;> cases e2
theorem call_reprW (G : Good Y X n c Z) : CallR X (.builtin "repr") (rBi Y X n .repr) := by
  intro pins s σ H xs us Q I r h
  obtain ⟨ws, S, al, E, rs, rw_, h⟩ := h
  have hu := G.room.un
  obtain ⟨w, rfl⟩ := bi_one (.inl rfl) h
  cases e : spec Y.T Cl.reprf S w with
  | none =>
    have h2 : Runs (Y.lay X.K X.w) al.length H al (RepW (Y.lay X.K X.w)) ((R.of ((rds S [w]).bind (bi .repr)) S).bind fun z S => .ok (.d z) S) Q E := by
      unfold biW at h
      simp only [e] at h
      exact h
    obtain ⟨z, ez, h3⟩ := h2.of_bind
    obtain ⟨ds, ed, ez⟩ := Option.bind_eq_some_iff.mp ez
    exact cl_repr lay_K G.gd (by omega) pins s σ H xs us Q I r ⟨ds, z, S, al, rts_of rs rw_ ed, ez, opS_of h3 rs⟩
  | some g =>
    have h2 : Runs (Y.lay X.K X.w) al.length H al (RepW (Y.lay X.K X.w)) ((callD Y.T n g [w] S).noex.bind asStr) Q E := by
      unfold biW at h
      simp only [e] at h
      exact h
    obtain ⟨cc, k, ec, ek, eg⟩ := spec_some e
    have km := List.mem_of_getElem? ek
    obtain ⟨v, l, rfl, r1, rfl⟩ := rw_
    obtain ⟨a, dx, fs, rfl, ea⟩ := ins_at rs r1 ec
    obtain ⟨u, rfl, ru⟩ := r.one
    cases ru
    obtain ⟨xn, CF⟩ := cls_get G ek
    obtain ⟨mA, O, -⟩ := ins_get I.hok ea
    obtain ⟨od, J, -⟩ := O.look
    have M := CF.rp g eg
    have hw : Runs (Y.lay X.K X.w) al.length H al (RepW (Y.lay X.K X.w)) (callD Y.T n g [w] S).noex (fun v H' => (∃ t, v = .str t) ∧ Q v H') fun _ _ _ => False := Runs.noexE (Runs.bind h2 fun r S1 u H1 al1 _ st rs1 rr h3 => by
      obtain ⟨t, e, q⟩ := asStr_of h3 (Nat.le_refl _) rs1 rr
      exact ⟨⟨t, e⟩, q⟩)
    have hq : ∀ u s', EP X pins σ (fun v H' => (∃ t, v = .str t) ∧ Q v H') u s' → PySem.W.StrBack (EP X pins σ Q) u s' := by
      rintro u s' ⟨z, H', I', rz, ⟨t, rfl⟩, q⟩
      obtain ⟨tk, e⟩ := (show ∃ tk, u = Value.str t tk from rz)
      cases e
      exact ⟨.str t, H', I', ⟨tk, rfl⟩, q⟩
    obtain ⟨d, -, hr⟩ := own_g G (A := X.A.in1) (E' := X.xe) (need_of (own_of G.sig km).2.1 eg) rfl (G.room.mono (j := 4 * n + 1) (by omega)).in1 G.gd I.env0.in1 I rs (.cons r1 .nil) (.cons rfl .nil) hw hq
    obtain ⟨m, hF⟩ := I.fr
    exact PySem.W.repr_K (by show X.A.units + 1 < _; omega) hF I.ok.mod.kin J M.at_ M.fn hr
theorem call_strW (G : Good Y X n c Z) : CallR X (.type "str") (rBi Y X n .str) := by
  intro pins s σ H xs us Q I r h
  obtain ⟨ws, S, al, E, rs, rw_, h⟩ := h
  have hu := G.room.un
  obtain ⟨w, rfl⟩ := bi_one (.inr rfl) h
  cases e : spec Y.T Cl.strf S w with
  | none =>
    have h2 : Runs (Y.lay X.K X.w) al.length H al (RepW (Y.lay X.K X.w)) ((R.of ((rds S [w]).bind (bi .str)) S).bind fun z S => .ok (.d z) S) Q E := by
      unfold biW at h
      simp only [e] at h
      exact h
    obtain ⟨z, ez, h3⟩ := h2.of_bind
    obtain ⟨ds, ed, ez⟩ := Option.bind_eq_some_iff.mp ez
    exact cl_str pins s σ H xs us Q I r ⟨ds, z, S, al, rts_of rs rw_ ed, ez, opS_of h3 rs⟩
  | some g =>
    have h2 : Runs (Y.lay X.K X.w) al.length H al (RepW (Y.lay X.K X.w)) ((callD Y.T n g [w] S).noex.bind asStr) Q E := by
      unfold biW at h
      simp only [e] at h
      exact h
    obtain ⟨cc, k, ec, ek, eg⟩ := spec_some e
    have km := List.mem_of_getElem? ek
    obtain ⟨v, l, rfl, r1, rfl⟩ := rw_
    obtain ⟨a, dx, fs, rfl, ea⟩ := ins_at rs r1 ec
    obtain ⟨u, rfl, ru⟩ := r.one
    cases ru
    obtain ⟨xn, CF⟩ := cls_get G ek
    obtain ⟨mA, O, -⟩ := ins_get I.hok ea
    obtain ⟨od, J, -⟩ := O.look
    have M := CF.sr g eg
    have hw : Runs (Y.lay X.K X.w) al.length H al (RepW (Y.lay X.K X.w)) (callD Y.T n g [w] S).noex (fun v H' => (∃ t, v = .str t) ∧ Q v H') fun _ _ _ => False := Runs.noexE (Runs.bind h2 fun r S1 u H1 al1 _ st rs1 rr h3 => by
      obtain ⟨t, e, q⟩ := asStr_of h3 (Nat.le_refl _) rs1 rr
      exact ⟨⟨t, e⟩, q⟩)
    have hq : ∀ u s', EP X pins σ (fun v H' => (∃ t, v = .str t) ∧ Q v H') u s' → PySem.W.StrBack (EP X pins σ Q) u s' := by
      rintro u s' ⟨z, H', I', rz, ⟨t, rfl⟩, q⟩
      obtain ⟨tk, e⟩ := (show ∃ tk, u = Value.str t tk from rz)
      cases e
      exact ⟨.str t, H', I', ⟨tk, rfl⟩, q⟩
    obtain ⟨d, -, hr⟩ := own_g G (A := X.A.in1.in1) (E' := X.xe) (need_of (own_of G.sig km).2.2 eg) rfl (G.room.mono (j := 4 * n + 2) (by omega)).in1.in1 G.gd I.env0.in1.in1 I rs (.cons r1 .nil) (.cons rfl .nil) hw hq
    obtain ⟨m, hF⟩ := I.fr
    exact PySem.W.kso_call (by show X.A.units + 1 + 1 < _; omega) I.kIn J M.at_ M.fn hr
theorem bi_rBi {b : Bi} {σ : L2.St} {H : Hp} {Q : VK} (h : tE Y X n Z (.bi b es) σ H Q) : tCB (rBi Y X n b) (tEs Y X n Z es) σ H Q := by
  obtain ⟨env, S, al, re, rs, h⟩ := h
  exact ⟨env, S, al, re, rs, Runs.bind h fun ws S1 vs H1 al1 _ st rs1 rws h1 => ⟨ws, S1, al1, _, rs1, rws, h1⟩⟩
theorem s_repr (G : Good Y X n c Z) {e : Expr} {as : List Expr} (hx : ("repr" : Str) ∈ Y.fre) (hg : glB c.sc "repr" = true) (ha : PA X (e :: as) (tEs Y X n Z es)) (hs : (e :: as).all notStar = true) : PE X (.Call (.Name "repr" p) (e :: as) [] pos) (tE Y X n Z (.bi .repr es)) := by
  obtain ⟨g1, g2, g3⟩ := gl_of G hg
  simp only [List.all_cons, Bool.and_eq_true] at hs
  exact PE.imp (pe_callB (call_reprW G) g1 (G.lnk.free hx) (by decide +kernel) ha g3 g2 (star_cons hs.1) (star_any hs.2)) fun _ _ _ h => bi_rBi h
theorem s_strc (G : Good Y X n c Z) {e : Expr} {as : List Expr} (hx : ("str" : Str) ∈ Y.fre) (hg : glB c.sc "str" = true) (ha : PA X (e :: as) (tEs Y X n Z es)) (hs : (e :: as).all notStar = true) : PE X (.Call (.Name "str" p) (e :: as) [] pos) (tE Y X n Z (.bi .str es)) := by
  obtain ⟨g1, g2, g3⟩ := gl_of G hg
  simp only [List.all_cons, Bool.and_eq_true] at hs
  exact PE.imp (pe_callTy (call_strW G) g1 (G.lnk.free hx) (by decide +kernel) ha g3 g2 (star_cons hs.1) (star_any hs.2)) fun _ _ _ h => bi_rBi h
theorem asBl_ok {α : Type} {r : W} {S S' : Store} {f : Bool → Store → R α} {x : α} (h : (asBl r S).bind f = .ok x S') : ∃ b, r = .d (.bl b) ∧ f b S = .ok x S' := by
  cases r with
  | loc k => cases h
  | d z =>
    cases z with
    | bl b => exact ⟨b, rfl, h⟩
    | _ => cases h
theorem bind_ok {α β : Type} {m : R α} {f : α → Store → R β} {x : β} {S : Store} (h : m.bind f = .ok x S) : ∃ a S1, m = .ok a S1 ∧ f a S1 = .ok x S := by
  cases m with
  | ok a S1 => exact ⟨a, S1, rfl, h⟩
  | ex c vs S1 => cases h
  | bad => cases h
theorem cmpW_bl (G : Good Y X n c Z) {o : COp} {x y r : W} {S S' : Store} (h : cmpW Y.T (callD Y.T n) o x y S = .ok r S') : ∃ b, r = .d (.bl b) := by
  have old : (match rd S x, rd S y with
    | some x, some y => (R.of (cmp o x y) S).bind fun z S => .ok (.d z) S
    | _, _ => .bad) = R.ok r S' → ∃ b, r = .d (.bl b) := fun h2 => by
    split at h2
    · rename_i d d' e1 e2
      cases q : cmp o d d' with
      | none => rw [q] at h2; cases h2
      | some z =>
        rw [q] at h2
        cases h2
        obtain ⟨b, rfl⟩ := cmp_bl q
        exact ⟨b, rfl⟩
    · cases h2
  unfold cmpW at h
  cases e : spec Y.T Cl.eqf S x with
  | none =>
    rw [e] at h
    cases o <;> exact old h
  | some g =>
    rw [e] at h
    cases o with
    | eq =>
      obtain ⟨_, _, _, h⟩ := bind_ok h
      obtain ⟨_, _, _, h⟩ := bind_ok h
      obtain ⟨b, rfl, h⟩ := asBl_ok h
      cases h
      exact ⟨_, rfl⟩
    | ne =>
      obtain ⟨_, _, _, h⟩ := bind_ok h
      obtain ⟨_, _, _, h⟩ := bind_ok h
      obtain ⟨b, rfl, h⟩ := asBl_ok h
      cases h
      exact ⟨_, rfl⟩
    | _ => exact old h
/-! ### list(range(..)) -/
def isRg : It → Bool
  | .rng1 _ => true
  | .rng2 _ _ => true
  | _ => false
/-- a range as an argument -/
def tRgI (Y : Txt) (X : Cx) (n : Nat) (Z : WX) (it : It) : L2.St → Hp → (Int → Int → Hp → Prop) → Prop := fun σ H Q => ∃ env S al, RelE (Y.lay X.K X.w) H al env σ ∧ RelS (Y.lay X.K X.w) H S al ∧
  Runs (Y.lay X.K X.w) al.length H al (fun _ _ (xs : List D) (ab : Int × Int) => xs = intRange ab.1 ab.2 ∧ rngOk ab.1 = true ∧ rngOk ab.2 = true) (evI Y.T (callD Y.T n) it env S) (fun ab H1 => Q ab.1 ab.2 H1) (AtX Z σ)
theorem rg_1 (G : Good Y X n c Z) {a : Ex} {ea : Expr} (hx : ("range" : Str) ∈ Y.fre) (hg : glB c.sc "range" = true) (ha : PE X ea (tE Y X n Z a)) (hs : notStar ea = true) : PRg X (.Call (.Name "range" p) [ea] [] pos) (tRgI Y X n Z (.rng1 a)) := by
  obtain ⟨g1, g2⟩ := range_g G hx hg
  refine fun pins s σ H Q I h => prg_1 g1 g2 ha (star_cons hs) pins s σ H Q I ?_
  obtain ⟨env, S, al, re, rs, h⟩ := h
  refine ⟨env, S, al, re, rs, Runs.bind h fun w S1 v H1 al1 _ st rs1 rw_ h1 => ?_⟩
  cases w with
  | loc _ => exact h1.elim
  | d x =>
    cases x with
    | int j =>
      simp only at h1
      split at h1
      · rename_i hj
        exact ⟨j, by rw [(RepD.rt rw_).int], h1.here (b := (0, j)) (Nat.le_refl _) rs1 ⟨rfl, (by decide : rngOk 0 = true), hj⟩⟩
      · exact h1.elim
    | _ => exact h1.elim
theorem rg_2 (G : Good Y X n c Z) {a b : Ex} {ea eb : Expr} (hx : ("range" : Str) ∈ Y.fre) (hg : glB c.sc "range" = true) (ha : PE X ea (tE Y X n Z a)) (hb : PE X eb (tE Y X n Z b)) (hs : notStar ea = true) (hs2 : notStar eb = true) :
    PRg X (.Call (.Name "range" p) [ea, eb] [] pos) (tRgI Y X n Z (.rng2 a b)) := by
  obtain ⟨g1, g2⟩ := range_g G hx hg
  refine fun pins s σ H Q I h => prg_2 g1 g2 ha hb (by rw [star_cons hs]) (star_cons hs2) (by rw [star_cons hs2]; rfl) pins s σ H Q I ?_
  obtain ⟨env, S, al, re, rs, h⟩ := h
  refine ⟨env, S, al, re, rs, Runs.bind h fun w S1 v H1 al1 _ st rs1 rw_ h1 => ⟨env, S1, al1, re.step st (Nat.le_refl _), rs1, h1.bind fun w2 S2 v2 H2 al2 _ st2 rs2 rw2 h2 => ?_⟩⟩
  cases w with
  | loc _ => exact h2.elim
  | d x =>
    cases x with
    | int i =>
      cases w2 with
      | loc _ => exact h2.elim
      | d y =>
        cases y with
        | int j =>
          simp only at h2
          split at h2
          · rename_i hij
            simp only [Bool.and_eq_true] at hij
            exact ⟨i, j, by rw [(RepD.rt rw_).int], by rw [(RepD.rt rw2).int], h2.here (b := (i, j)) (Nat.le_refl _) rs2 ⟨rfl, hij⟩⟩
          · exact h2.elim
        | _ => exact h2.elim
    | _ => cases w2 with
      | loc _ => exact h2.elim
      | d y => cases y <;> exact h2.elim
theorem rg_reps {L : Lay} {H : Hp} {al : List Addr} (i j : Int) : RepDs L H al (intRange i j) (rgV i j) := by
  unfold intRange rgV
  induction List.range (j - i).toNat with
  | nil => simp [RepDs]
  | cons k ks ih =>
    simp only [List.map_cons, RepDs]
    exact ⟨_, _, rfl, by simp [RepD], ih⟩
theorem s_lof (G : Good Y X n c Z) {m : Bool} {it : It} {r : Expr} (hx : ("list" : Str) ∈ Y.fre) (hg : glB c.sc "list" = true) (hr : PRg X r (tRgI Y X n Z it)) (hs : notStar r = true) : PE X (.Call (.Name "list" p) [r] [] pos) (tE Y X n Z (.lof m it)) := by
  obtain ⟨g1, g2⟩ := range_g G hx hg
  refine PE.imp (pe_listRg G.calm g1 g2 hr (star_cons hs)) ?_
  rintro σ H Q ⟨env, S, al, re, rs, h⟩
  refine ⟨env, S, al, re, rs, Runs.bind h fun xs S1 ab H1 al1 _ st rs1 ⟨ex, o1, o2⟩ h1 => ?_⟩
  subst ex
  split at h1
  · rename_i hl
    obtain ⟨b1, b2⟩ := rng_of o1
    obtain ⟨b3, b4⟩ := rng_of o2
    have hl2 : (ab.2 - ab.1).toNat ≤ lim := by simpa [intRange] using hl
    unfold lim at hl2
    exact ⟨⟨b1, b2, b3, b4, by omega⟩, fun p hp => fresh_ok h1 rs1 (rg_reps _ _) hp⟩
  · exact h1.elim
/-- list(a), a list that is changed later -/
theorem call_thaw {E : XK} : CallR X (.type "list") (fun us H Q => ∃ w S al, RelS (Y.lay X.K X.w) H S al ∧ RepWs (Y.lay X.K X.w) H al [w] us ∧ Runs (Y.lay X.K X.w) al.length H al (RepW (Y.lay X.K X.w)) ((R.of (seqD S w) S).bind fun xs S2 => fresh true xs S2) Q E) := by
  intro pins s σ H xs us Q I r h
  obtain ⟨w, S, al, rs, rw_, h⟩ := h
  obtain ⟨v, l, rfl, r1, rfl⟩ := rw_
  obtain ⟨ys, ey, h2⟩ := h.of_bind
  have key : ∃ p vs, v = .ref p ∧ (SqL X.K H p vs ∨ SqT X.K H p vs) ∧ RepDs (Y.lay X.K X.w) H al ys vs := by
    unfold seqD at ey
    split at ey
    · rename_i zs e1
      cases ey
      obtain ⟨a, vs, e2, ha, rv⟩ := r1.rt rs e1
      exact ⟨a, vs, e2, .inl (.inl (.inl ha)), rv⟩
    · rename_i zs e1
      cases ey
      obtain ⟨a, vs, e2, ha, rv⟩ := (r1.rt rs e1).tup
      exact ⟨a, vs, e2, .inr ha, rv⟩
    · cases ey
  obtain ⟨p, vs, rfl, hp, rv⟩ := key
  exact call_list_of pins s σ H _ us Q I r ⟨p, vs, rfl, hp, fun l hl => fresh_ok h2 rs rv hl⟩
theorem s_thaw (G : Good Y X n c Z) {a : Ex} {r : Expr} (hx : ("list" : Str) ∈ Y.fre) (hg : glB c.sc "list" = true) (ha : PE X r (tE Y X n Z a)) (hs : notStar r = true) : PE X (.Call (.Name "list" p) [r] [] pos) (tE Y X n Z (.thaw a)) := by
  obtain ⟨g1, g2, g3⟩ := gl_of G hg
  refine ⟨fun pins s σ H Q I h => (pe_callTy (pos := pos) (p := p) (call_thaw (Y := Y) (E := AtX Z σ)) g1 (G.lnk.free hx) (by decide +kernel) (pa_cons ha pa_nil (star_cons hs)) g3 g2 (star_cons hs)).run pins s σ H Q I ?_⟩
  obtain ⟨env, S, al, re, rs, h⟩ := h
  exact ⟨env, S, al, re, rs, Runs.bind h fun w S1 u H1 al1 _ st rs1 rw_ h1 => ⟨w, S1, al1, rs1, ⟨u, [], rfl, rw_, rfl⟩, h1⟩⟩
end
/-! ### ranges of any numbers -/
theorem it_one {b it : Addr} (h : b ∈ [it]) : b = it := by simpa using h
theorem turn_long {P : Program} {w : World} {K : PySem.W.Frag} {tg : Expr} (it : Addr) (lo : Int) (n : Nat) : Turn P w K tg (L2.Itr lo n) [it] it fun k h => IsLongIter h it (lo + (k : Nat) * 1) ((n : Int) - (k : Nat)) 1 where
  mem := by simp
  obj := fun k h st b hb => by
    cases it_one hb
    exact ⟨_, st, fun v z => nomatch (show Data.fields _ = Data.cell v from z)⟩
  keep := fun k h h' st kk => kk it (by simp) _ st
  item := by
    intro X hP hw hK hc k pins s σ H E I hf st hg
    subst hP hw hK
    obtain ⟨f0, f1, f2, f3, f4, f5⟩ := hf it (by simp)
    refine (Walks.longrange (prog := X.prog) (w := X.w) (I.ok.hd hc) it lo 1 n).item k s _ _ hg st fun v h' tk hv st' kk => ?_
    obtain ⟨t, rfl⟩ := hv
    have I2 : Inv X pins σ H { s with heap := h', toks := tk } := I.turned (fun b o hb e => kk b o (fun z => hb (it_one z)) e) f0 f1 f3 f4 f5
    exact ⟨_, rfl, go_of (s := { s with heap := h', toks := tk }) (n := "longrange_iterator") st' rfl rfl (by decide) ⟨.int (lo + k), H, I2, ⟨t, by rw [Int.mul_one]⟩, ⟨rfl, rfl⟩, st', fun b hb => (hf b hb).1⟩⟩
  done := by
    intro X hP hw hK hc k pins s σ H E I hf st hg
    subst hP hw hK
    obtain ⟨f0, f1, f2, f3, f4, f5⟩ := hf it (by simp)
    have hk : n ≤ k := hg
    exact wpAny_pyNext_long_end (I.ok.hd hc) st (by omega) fun h' eb => ⟨rfl, I.turned (t' := s.toks) (fun b o hb e => eb b o hb e) f0 f1 f3 f4 f5⟩
  self := fun _ _ _ _ _ st h => wpAny_pyIter_longiter st h
section
variable {Y : Txt} {X : Cx} {n : Nat} {c : Sco} {Z : WX} {pos p : Pos} {tg : Expr}
theorem pi_rangeL {a b : Expr} {ta : TA} (hg : Gl X "range") (hm : X.mg "range" = none) (ha : PA X [a, b] ta) (hs : starEach [a, b] X.env = [(false, eval a X.env), (false, eval b X.env)]) (hs2 : starEach [b] X.env = [(false, eval b X.env)]) :
    PI X tg (.Call (.Name "range" p) [a, b] [] pos) fun σ H R => ta σ H fun vs H1 => ∃ i j : Int, vs = [.int i, .int j] ∧ R (L2.Itr i (j - i).toNat) H1 := by
  refine ⟨fun pins s σ H R I h => Call_ (ld_blt I hg hm boot_range (PyProof.Rows.callWith_type1 (thn (ha.run pos pins s σ H _ I h) fun us s1 ⟨vs, H1, I1, r1, q1⟩ => ?_) (by rw [hs, hs2]) (by rw [hs2]; rfl)))⟩
  obtain ⟨i, j, rfl, q⟩ := q1
  cases r1 with
  | cons r rr =>
    cases rr with
    | cons r' rr =>
      cases rr
      obtain ⟨t, rfl⟩ := r
      obtain ⟨t', rfl⟩ := r'
      refine call_range_2 ?_
      have I2 : Inv X pins σ H1 { s1 with heap := s1.heap.push { cls := .type "range", data := .fields #[.int i t, .int j t', .int 1 s1.toks] }, toks := s1.toks + 1 } := I1.kept fun b o e => Heap.get?_push_of_some _ e
      have sz : Builtin.Range.rangeSize i j 1 = (((j - i).toNat : Nat) : Int) := rangeSize_nat i j
      cases q1 : Builtin.Range.small i j 1 with
      | true =>
        refine wpAny_pyIter_range (IsRange.new ..) q1 (pi_one (tk := s1.toks + 1) I2 _ (turn_range _ i (j - i).toNat) ?_ q)
        show IsRangeIter _ _ (i + ((0 : Nat) : Int) * 1) ((((j - i).toNat : Nat) : Int) - ((0 : Nat) : Int)) 1
        rw [show i + ((0 : Nat) : Int) * 1 = i by simp, show (((j - i).toNat : Nat) : Int) - ((0 : Nat) : Int) = Builtin.Range.rangeSize i j 1 by rw [sz]; simp]
        exact Heap.get?_push_size _ rfl
      | false =>
        refine wpAny_pyIter_longrange (IsRange.new ..) q1 (pi_one (tk := s1.toks + 1) I2 _ (turn_long _ i (j - i).toNat) ?_ q)
        show IsLongIter _ _ (i + ((0 : Nat) : Int) * 1) ((((j - i).toNat : Nat) : Int) - ((0 : Nat) : Int)) 1
        rw [show i + ((0 : Nat) : Int) * 1 = i by simp, show (((j - i).toNat : Nat) : Int) - ((0 : Nat) : Int) = Builtin.Range.rangeSize i j 1 by rw [sz]; simp]
        exact Heap.get?_push_size _ rfl
theorem i_rngB (G : Good Y X n c Z) {a b : Ex} {ea eb : Expr} (hx : ("range" : Str) ∈ Y.fre) (hg : glB c.sc "range" = true) (ha : PE X ea (tE Y X n Z a)) (hb : PE X eb (tE Y X n Z b)) (hs : notStar ea = true) (hs2 : notStar eb = true) :
    PI X tg (.Call (.Name "range" p) [ea, eb] [] pos) (tI Y X n Z (.rngB a b)) := by
  obtain ⟨g1, g2⟩ := range_g G hx hg
  refine ⟨fun pins s σ H R2 I h => (pi_rangeL g1 g2 (pa_cons ha (pa_cons hb pa_nil (star_cons hs2)) (star_cons hs)) (by rw [star_cons hs, star_cons hs2]; rfl) (star_cons hs2)).run pins s σ H R2 I ?_⟩
  obtain ⟨env, S, al, re, rs, h⟩ := h
  refine ⟨env, S, al, re, rs, Runs.bind h fun w S1 v H1 al1 _ st rs1 rw_ h1 => ⟨env, S1, al1, re.step st (Nat.le_refl _), rs1, h1.bind fun w2 S2 v2 H2 al2 _ st2 rs2 rw2 h2 => ?_⟩⟩
  cases w with
  | loc _ => exact h2.elim
  | d x =>
    cases x with
    | int i =>
      cases w2 with
      | loc _ => exact h2.elim
      | d y =>
        cases y with
        | int j => exact ⟨i, j, by rw [(RepD.rt rw_).int, (RepD.rt rw2).int], Runs.here (show Runs (Y.lay X.K X.w) al2.length H2 al2 (fun H1 al1 ds J => Goes (Y.lay X.K X.w) J ds H1 al1) (.ok (intRange i j) S2) R2 _ from h2) (Nat.le_refl _) rs2 goes_rng⟩
        | _ => exact h2.elim
    | _ => cases w2 with
      | loc _ => exact h2.elim
      | d y => cases y <;> exact h2.elim
end
end Ev
end
section
/-! EvDO: list(range(a, b, c)), a step upwards. Own work. -/
set_option linter.all false
set_option autoImplicit false
set_option maxRecDepth 100000
set_option maxHeartbeats 2000000
namespace Ev
def isRg3 : It → Bool
  | .rng3 _ _ _ => true
  | _ => false
open PySem PySem.Spec PyProof.Rows L2
section
variable {X : L2.Cx} {p pos : Pos} {e : Expr}
/-- an expression that makes a range with a step -/
def PRg3 (X : L2.Cx) (e : Expr) (t : L2.St → Hp → (Int → Int → Int → Hp → Prop) → Prop) : Prop :=
  ∀ (pins : List (Addr × Obj)) (s : Shared) (σ : L2.St) (H : Hp) (Q : Int → Int → Int → Hp → Prop), Inv X pins σ H s → t σ H Q →
    wpAny (model X.prog X.w) X.A (eval e X.env) (fun x s' => ∃ r a b c t u v H', x = .ref r ∧ IsRange s'.heap r a b c t u v ∧ Inv X pins σ H' s' ∧ Q a b c H') X.xe s
theorem prg_3 {a b c : Expr} {ta : TA} (hg : Gl X "range") (hm : X.mg "range" = none) (ha : PA X [a, b, c] ta)
    (hs : starEach [a, b, c] X.env = (false, eval a X.env) :: starEach [b, c] X.env := by rfl) (hpl : (backTo pos (starEach [b, c] X.env)).any (·.1) = false := by rfl) :
    PRg3 X (.Call (.Name "range" p) [a, b, c] [] pos) (fun σ H Q => ta σ H fun vs H1 => ∃ i j k : Int, vs = [.int i, .int j, .int k] ∧ k ≠ 0 ∧ k.natAbs < 1073741824 ∧ Q i j k H1) := by
  intro pins s σ H Q I h
  refine Call_ (ld_blt I hg hm boot_range (PyProof.Rows.callWith_type1 (thn (ha.run pos pins s σ H _ I h) fun us s1 ⟨vs, H1, I1, r1, q1⟩ => ?_) hs hpl))
  obtain ⟨i, j, k, e, c0, c1, q⟩ := q1
  subst e
  cases r1 with
  | cons r rr =>
    cases rr with
    | cons r' rr =>
      cases rr with
      | cons r'' rr =>
        cases rr
        obtain ⟨t, rfl⟩ := r
        obtain ⟨t', rfl⟩ := r'
        obtain ⟨t'', rfl⟩ := r''
        exact call_range_3 c0 ⟨_, i, j, k, _, _, _, H1, rfl, IsRange.new .., I1.kept (t' := s1.toks) fun b o e => Heap.get?_push_of_some _ e, q⟩ (.inl (PyProof.noPylong_small c1))
def stV (i j c : Int) : List V := (List.range (stepN i j c)).map fun k => V.int (i + (k : Nat) * c)
theorem stV_length (i j c : Int) : (stV i j c).length = stepN i j c := by unfold stV; rw [List.length_map, List.length_range]
theorem vals_st {i j c : Int} {acc : Array Value} (h : ItemsOf (fun k v => ∃ t, v = .int (i + k * c) t) acc (stepN i j c)) : Vals (stV i j c) acc.toList := by
  have e : acc.toList.length = stepN i j c := by rw [Array.length_toList]; exact h.1
  unfold stV
  rw [← e]
  refine vals_of_get acc.toList _ fun k u hk => ?_
  obtain ⟨t, rfl⟩ := h.2 k u (by rw [← hk, Array.getElem?_toList])
  exact ⟨t, rfl⟩
/-- small bounds, a step upwards -/
def RgOk3 (a b c : Int) : Prop := -(2 ^ 62) ≤ a ∧ a < 2 ^ 62 ∧ -(2 ^ 62) ≤ b ∧ b < 2 ^ 62 ∧ 0 < c ∧ c < 1000 ∧ stepN a b c ≤ 2 ^ 24
variable {te : L2.St → Hp → (Int → Int → Int → Hp → Prop) → Prop}
theorem pe_listRg3 (hc : X.calm = true) (hg : Gl X "list") (hm : X.mg "list" = none) (he : PRg3 X e te) (na : starEach [e] X.env = (false, eval e X.env) :: starEach [] X.env := by rfl) : PE X (.Call (.Name "list" p) [e] [] pos) (fun σ H Q => te σ H fun a b c H1 => RgOk3 a b c ∧ ∀ q, H1 q = none → Q (.ref q) (upd H1 q (.lst (stV a b c)))) := by
  refine ⟨fun pins s σ H Q I h => ?_⟩
  refine Call_ (ld_blt I hg hm boot_list (PyProof.Rows.callWith_type1 (args_cons (thn (he pins s σ H _ I h) fun x s1 ⟨r, a, b, c, t, u, v, H1, ex, hr, I1, ok, q⟩ => args_nil ?_) na) na))
  subst ex
  obtain ⟨b1, b2, b3, b4, b5, b6, b7⟩ := ok
  obtain ⟨-, -, k3, k4⟩ := rgc_pos b1 b2 b3 b4 b5 b6
  refine call_list_range (n := stepN a b c) (I1.ok.hd hc) hr k3 k4 b7 fun h' tk acc c' hk e' hi => ?_
  refine ⟨.ref s1.heap.objs.size, upd H1 s1.heap.objs.size (.lst (stV a b c)), I1.laid hk (Nat.le_refl _) (show ObjOk X.prog X.w _ _ _ (.lst (stV a b c)) from ⟨?_, acc.toList, c', vals_st hi, ?_⟩), rfl, q _ (I1.hok.fresh (Nat.le_refl _))⟩
  · rw [stV_length, sizeLine_eq]; omega
  · rw [Array.toArray_toList]; exact e'
end
section
variable {Y : Txt} {X : L2.Cx} {n : Nat} {c : Sco} {Z : WX} {pos p : Pos}
theorem st_reps {L : Lay} {H : Hp} {al : List Addr} (i j k : Int) : RepDs L H al (stepRange i j k) (stV i j k) := by
  unfold stepRange stV
  induction List.range (stepN i j k) with
  | nil => simp [RepDs]
  | cons k ks ih =>
    simp only [List.map_cons, RepDs]
    exact ⟨_, _, rfl, by simp [RepD], ih⟩
theorem s_lof3 (G : Good Y X n c Z) {m : Bool} {a b e : Ex} {ea eb ee : Expr} {q q2 : Pos} (hl : ("list" : Str) ∈ Y.fre) (hgl : glB c.sc "list" = true) (hx : ("range" : Str) ∈ Y.fre) (hg : glB c.sc "range" = true) (ha : PE X ea (tE Y X n Z a)) (hb : PE X eb (tE Y X n Z b)) (he : PE X ee (tE Y X n Z e)) (hs : notStar ea = true) (hs2 : notStar eb = true) (hs3 : notStar ee = true) :
    PE X (.Call (.Name "list" p) [.Call (.Name "range" q) [ea, eb, ee] [] q2] [] pos) (tE Y X n Z (.lof m (.rng3 a b e))) := by
  obtain ⟨g1, g2⟩ := range_g G hx hg
  obtain ⟨l1, l2⟩ := range_g G hl hgl
  refine PE.imp (pe_listRg3 G.calm l1 l2 (prg_3 g1 g2 (pa_cons ha (pa_cons hb (pa_cons he pa_nil (star_cons hs3)) (star_cons hs2)) (star_cons hs)) (star_cons hs) (star_any (by simp [hs2, hs3])))) ?_
  rintro σ H Q ⟨env, S, al, re, rs, h⟩
  have e1 : evE Y.T (callD Y.T n) (.lof m (.rng3 a b e)) env S = (evE Y.T (callD Y.T n) a env S).bind fun u S1 => (evE Y.T (callD Y.T n) b env S1).bind fun v S2 => (evE Y.T (callD Y.T n) e env S2).bind fun w S3 => (match u, v, w with
      | .d (.int i), .d (.int j), .d (.int c) => if rngOk i && rngOk j && (decide (0 < c) && decide (c < 1000)) then R.ok (stepRange i j c) S3 else .bad
      | _, _, _ => .bad).bind fun xs S1 => if xs.length ≤ lim then fresh m xs S1 else .bad := by
    show ((evE Y.T (callD Y.T n) a env S).bind _).bind _ = _
    rw [R.bind_assoc]
    congr 1; funext u S1
    rw [R.bind_assoc]
    congr 1; funext v S2
    rw [R.bind_assoc]
    try rfl
  rw [e1] at h
  refine ⟨env, S, al, re, rs, Runs.bind h fun w S1 v H1 al1 _ st rs1 rw_ h1 => ⟨env, S1, al1, re.step st (Nat.le_refl _), rs1, h1.bind fun w2 S2 v2 H2 al2 _ st2 rs2 rw2 h2 => ⟨env, S2, al2, (re.step st (Nat.le_refl _)).step st2 (Nat.le_refl _), rs2, h2.bind fun w3 S3 v3 H3 al3 _ st3 rs3 rw3 h3 => ?_⟩⟩⟩
  cases w with
  | loc _ => exact h3.elim
  | d x =>
    cases x with
    | int i =>
      cases w2 with
      | loc _ => exact h3.elim
      | d y =>
        cases y with
        | int j =>
          cases w3 with
          | loc _ => exact h3.elim
          | d z =>
            cases z with
            | int k =>
              simp only at h3
              split at h3
              · rename_i hij
                simp only [Bool.and_eq_true, decide_eq_true_eq] at hij
                obtain ⟨b1, b2⟩ := rng_of hij.1.1
                obtain ⟨b3, b4⟩ := rng_of hij.1.2
                rw [R.bind_ok] at h3
                split at h3
                · rename_i hl
                  have hl2 : stepN i j k ≤ lim := by simpa [stepRange] using hl
                  unfold lim at hl2
                  exact ⟨i, j, k, by rw [(RepD.rt rw_).int, (RepD.rt rw2).int, (RepD.rt rw3).int], by omega, by omega, ⟨b1, b2, b3, b4, hij.2.1, hij.2.2, by omega⟩, fun p hp => fresh_ok h3 rs3 (st_reps _ _ _) hp⟩
                · exact h3.elim
              · exact h3.elim
            | _ => exact h3.elim
        | _ => exact h3.elim
    | _ => exact h3.elim
end
end Ev
end
section
/-! EvDL: lists backwards, a + b as a changing list, dict displays, dict(list(a.items())). Own work. -/
set_option linter.all false
set_option autoImplicit false
set_option maxRecDepth 100000
set_option maxHeartbeats 1000000
namespace Ev
open PySem PySem.Spec PyProof.Rows L2
section
variable {Y : Txt} {X : Cx} {n : Nat} {c : Sco} {Z : WX} {pos pos1 pos2 p p1 p2 p3 apos cpos : Pos}
def rAddL (L : Lay) (E : XK) : R2 := fun x y H Q => ∃ xs ys S al, RT L H al (.lst xs) x ∧ RT L H al (.lst ys) y ∧ RelS L H S al ∧ Runs L al.length H al (RepW L) (if xs.length + ys.length ≤ lim then fresh true (xs ++ ys) S else .bad) Q E
theorem or_addL {L : Lay} {E : XK} : OpR X (binaryOp .Add) (rAddL L E) := by
  intro pins s σ H x y v u Q I rx ry h
  obtain ⟨xs, ys, S, al, ra, rb, rs, h⟩ := h
  split at h
  · rename_i hl
    obtain ⟨p, ps, rfl, hp, rp⟩ := ra
    obtain ⟨q, qs, rfl, hq, rq⟩ := rb
    refine op_cat pins s σ H _ _ v u Q I rx ry ⟨p, q, ps, qs, rfl, rfl, hp, hq, ?_, fun t ht => fresh_ok h rs (rp.append rq) ht⟩
    rw [← rp.length, ← rq.length]; exact Nat.le_trans hl lim_line
  · exact h.elim
theorem s_addL {a b : Ex} {ea eb : Expr} (ha : PE X ea (tE Y X n Z a)) (hb : PE X eb (tE Y X n Z b)) : PE X (.BinOp ea .Add eb pos) (tE Y X n Z (.addL a b)) := by
  refine ⟨fun pins s σ H Q I h => (pe_op (or_addL (L := Y.lay X.K X.w) (E := AtX Z σ)) ha hb).run pins s σ H Q I (two h ?_)⟩
  intro x y S u v H2 al rs rx ry h2
  split at h2
  · rename_i xs ys e1 e2
    exact ⟨xs, ys, S, al, rx.rt rs e1, ry.rt rs e2, rs, h2⟩
  · exact h2.elim

/-! ### dict displays -/
def trsD (Y : Txt) (X : Cx) (n : Nat) (Z : WX) : List L2.Key → Exs → List (TE × TE)
  | q :: qs, .cons e es => (L2.tC (L2.kV q), tE Y X n Z e) :: trsD Y X n Z qs es
  | _, _ => []
def zipK (qs : List L2.Key) (vs : List V) : List (L2.Key × V) := qs.zip vs
theorem ds_run {env : Env} {σ : L2.St} : ∀ {es : Exs} {qs : List L2.Key} {S : Store} {al : List Addr} {H : Hp} {Q : List V → Hp → Prop} {P : List (V × V) → Hp → Prop}, lenEs es = qs.length → RelE (Y.lay X.K X.w) H al env σ → RelS (Y.lay X.K X.w) H S al →
    Runs (Y.lay X.K X.w) al.length H al (RepWs (Y.lay X.K X.w)) (evEs Y.T (callD Y.T n) es env S) Q (AtX Z σ) → (∀ vs H3, vs.length = qs.length → Q vs H3 → P ((zipK qs vs).map (fun kv => (L2.kV kv.1, kv.2))) H3) →
    tPairs (trsD Y X n Z qs es) σ H P
  | .nil, [], S, al, H, Q, P, hl, re, rs, h, k => k [] H rfl (Runs.here (Rq := RepWs (Y.lay X.K X.w)) (show Runs (Y.lay X.K X.w) _ H al _ (.ok [] S) Q _ from h) (Nat.le_refl _) rs rfl)
  | .nil, _ :: _, _, _, _, _, _, hl, _, _, _, _ => by simp [lenEs] at hl
  | .cons _ _, [], _, _, _, _, _, hl, _, _, _, _ => by simp [lenEs] at hl
  | .cons e es, q :: qs, S, al, H, Q, P, hl, re, rs, h, k => by
    have h' : Runs (Y.lay X.K X.w) al.length H al (RepWs (Y.lay X.K X.w)) ((evE Y.T (callD Y.T n) e env S).bind fun w S1 => (evEs Y.T (callD Y.T n) es env S1).bind fun ws S2 => .ok (w :: ws) S2) Q (AtX Z σ) := h
    refine ⟨env, S, al, re, rs, h'.bind fun w S1 u H1 al1 _ st rs1 rw_ h1 => ?_⟩
    exact ds_run (es := es) (qs := qs) (Q := fun vs H3 => Q (u :: vs) H3) (by simpa [lenEs] using hl) (re.step st (Nat.le_refl _)) rs1 (h1.bind fun ws S2 us H2 al2 _ st2 rs2 rws h2 => h2.here (Nat.le_refl _) rs2 ⟨u, us, rfl, rw_.step st2 (Nat.le_refl _), rws⟩)
      fun vs H3 e2 q2 => k (u :: vs) H3 (by simp [e2]) q2
def chkKeys : List D → List (Option Expr) → Bool
  | [], [] => true
  | d :: ds, some (.Constant k _ _) :: es => isKey d && conA d k && chkKeys ds es
  | _, _ => false
theorem keys_of : ∀ {ks : List D} {keys : List (Option Expr)}, chkKeys ks keys = true → keys.all (·.isSome) = true ∧ keys.length = ks.length
  | [], [], _ => ⟨rfl, rfl⟩
  | d :: ds, some (.Constant k _ _) :: es, h => by
    simp only [chkKeys, Bool.and_eq_true] at h
    obtain ⟨h1, h2⟩ := keys_of h.2
    exact ⟨by simpa using h1, by simp [h2]⟩
  | [], _ :: _, h => by simp [chkKeys] at h
  | _ :: _, [], h => by simp [chkKeys] at h
  | _ :: _, none :: _, h => by simp [chkKeys] at h
theorem key_pe {d : D} {k : Const} {j : Nat} {q : L2.Key} (h1 : keyD d = some q) (h2 : conA d k = true) : PE X (.Constant k j pos) (L2.tC (L2.kV q)) := by
  cases d <;> simp only [keyD, reduceCtorEq, Option.some.injEq] at h1 <;> subst h1 <;> cases k <;> simp only [conA, Bool.false_eq_true] at h2
  · rw [eq_of_beq h2]; exact pe_int
  · simp only [Bool.and_eq_true, decide_eq_true_eq] at h2
    rw [h2.1]; exact pe_str
theorem pps_of : ∀ {ks : List D} {qs : List L2.Key} {keys : List (Option Expr)} {vals : List Expr} {es : Exs}, ks.map keyD = qs.map some → chkKeys ks keys = true → keys.length = vals.length → PJE Y X n Z vals es → PPs X pos keys vals (trsD Y X n Z qs es)
  | [], [], [], [], _, _, _, _, .nil => pps_nil
  | [], [], [], _ :: _, _, _, _, hl, _ => by simp at hl
  | d :: ds, q :: qs, some (.Constant k _ _) :: es, v :: vs, _, e, h, hl, .cons p r => by
    simp only [chkKeys, Bool.and_eq_true] at h
    simp only [List.map_cons, List.cons.injEq] at e
    exact pps_cons (key_pe e.1 h.1.2) p (pps_of e.2 h.2 (by simpa using hl) r)
  | _ :: _, _ :: _, some (.Constant _ _ _) :: _, [], _, _, _, hl, _ => by simp at hl
  | [], _ :: _, _, _, _, e, _, _, _ => by simp at e
  | _ :: _, [], _, _, _, e, _, _, _ => by simp at e
  | [], [], _ :: _, _, _, _, h, _, _ => by simp [chkKeys] at h
  | _ :: _, _ :: _, [], _, _, _, h, _, _ => by simp [chkKeys] at h
  | _ :: _, _ :: _, none :: _, _, _, _, h, _, _ => by simp [chkKeys] at h
theorem pje_len {vs : List Expr} {es : Exs} (h : PJE Y X n Z vs es) : lenEs es = vs.length := by
  induction h with
  | nil => rfl
  | cons h r ih => simp [lenEs, ih]
theorem set_takeD {α : Type} {l : List α} {i : Nat} {x : α} (h : i < l.length) : (l.set i x).take (i + 1) = l.take i ++ [x] := by
  rw [List.take_set, List.take_succ_eq_append_getElem h, List.set_append, List.length_take, Nat.min_eq_left (Nat.le_of_lt h), if_neg (Nat.lt_irrefl _), Nat.sub_self]
  rfl
theorem s_dsp {m : Bool} {ks : List D} {es : Exs} {keys : List (Option Expr)} {vals : List Expr} (hn : nodupK ks = true) (hk : chkKeys ks keys = true) (hv : PJE Y X n Z vals es) (hl : keys.length = vals.length) (h0 : keys ≠ []) (h15 : keys.length ≤ 15) : PE X (.Dict keys vals pos) (tE Y X n Z (.dsp m ks es)) := by
  obtain ⟨qs, eq⟩ := nodupK_keys hn
  obtain ⟨ka, kl⟩ := keys_of hk
  have lq : qs.length = ks.length := by have := congrArg List.length eq; simpa using this.symm
  refine PE.imp (pe_disp (pps_of eq hk hl hv) ka hl h0 h15) ?_
  rintro σ H Q ⟨env, S, al, re, rs, h⟩ p hp
  have kp := keep_upd (o := HO.dK []) hp
  have rs' := rs.push (o := .dK []) (so := .dic [] []) hp kp ⟨[], upd_same, rfl, .nil⟩
  have st' := Step.push (n := al.length) (H' := upd H p (.dK [])) (Nat.le_refl _) hp kp
  have h' : Runs (Y.lay X.K X.w) al.length H al (RepW (Y.lay X.K X.w)) ((evEs Y.T (callD Y.T n) es env (S ++ [.dic [] []])).bind fun ws S1 => (R.of (dats ws) S1).bind fun xs S2 => accD m S.length ks xs S2) Q (AtX Z σ) := h
  have hE : lenEs es = qs.length := by rw [pje_len hv, lq, ← kl, hl]
  refine ds_run (Q := fun vs H3 => H3 p = some (.dK []) ∧ Q (.ref p) (upd H3 p (.dK (zipK qs vs)))) hE (re.step st' (Nat.le_refl _)) rs' ?_ fun vs H3 e2 ⟨q1, q2⟩ => ⟨q1, zipK qs vs, rfl, ?_, ?_⟩
  · cases ev : evEs Y.T (callD Y.T n) es env (S ++ [.dic [] []]) with
    | bad => rw [ev] at h'; exact h'.elim
    | ex cc ws S1 =>
      rw [ev] at h'
      exact fun b d H' al' s => (show Runs (Y.lay X.K X.w) al.length H al (RepW (Y.lay X.K X.w)) (.ex cc ws S1) Q _ from h') b d H' al' (st'.trans (s.mono (by simp)))
    | ok ws S1 =>
      rw [ev, R.bind_ok] at h'
      intro vs H1 al1 st rs1 rws
      obtain ⟨xs, ed, h2⟩ := h'.of_bind
      have rx := rws.dats ed
      have lt1 : al.length < al1.length := by have := st.le'; simp at this; omega
      have ep : al1[al.length]? = some p := by rw [st.get (by simp)]; simp
      have hlS : al.length = S.length := rs.len
      unfold accD at h2
      split at h2
      case h_2 => exact h2.elim
      rename_i e1
      rw [← hlS] at e1
      obtain ⟨kvs, hk1, dr, -⟩ := rs1.obj _ p _ ep e1
      have ek : kvs = [] := by
        unfold DicR at dr
        cases kvs with
        | nil => rfl
        | cons _ _ => simp at dr
      subst ek
      refine ⟨hk1, ?_⟩
      split at h2
      case isFalse => exact h2.elim
      rename_i hc
      have lz : qs.length = vs.length := by rw [lq, hc.1, rx.length]
      have ed1 : DicR ks (zipK qs vs) := by
        show ks.map keyD = _
        rw [eq]
        have : (zipK qs vs).map (fun p => some p.1) = ((zipK qs vs).map (·.1)).map some := by rw [List.map_map]; rfl
        rw [this]
        show qs.map some = (List.map Prod.fst (qs.zip vs)).map some
        rw [List.map_fst_zip (by omega)]
      have ed2 : (zipK qs vs).map (·.2) = vs := by
        show List.map Prod.snd (qs.zip vs) = vs
        rw [List.map_snd_zip (by omega)]
      have hm : p ∈ al1 := List.mem_of_getElem? ep
      have kk : ∀ b u, b ≠ p → H1 b = some u → upd H1 p (.dK (zipK qs vs)) b = some u := fun b u hb e => by rw [upd_ne hb]; exact e
      have kd : ∀ b o, H1 b = some o → b ∉ al1 → upd H1 p (.dK (zipK qs vs)) b = some o ∧ b ∉ al1 := fun b o e mm => ⟨kk b o (fun z => mm (z ▸ hm)) e, mm⟩
      have rs2 := rs1.write (so := .dic ks xs) ep kk ⟨zipK qs vs, upd_same, ed1, by rw [ed2]; exact rx.stay kd⟩
      have sl : al.length < S1.length := by rw [← rs1.len]; exact lt1
      have keepA : ∀ (k : Nat), ∀ b o, H b = some o → b ∉ al → upd H1 p (.dK (zipK qs vs)) b = some o ∧ b ∉ al1.take k := fun k b o e mm => by
        have s1 := st'.trans (st.mono (by simp))
        obtain ⟨a1, a2⟩ := s1.keep b o e mm
        have hne : b ≠ p := fun z => by subst z; rw [hp] at e; cases e
        exact ⟨kk b o hne a1, fun z => a2 (List.mem_of_mem_take z)⟩
      have preA : al1.take al.length = al := by
        have := (st'.trans (st.mono (by simp))).pre
        rw [List.take_length] at this
        exact this
      cases m with
      | false =>
        refine (show Runs (Y.lay X.K X.w) al.length H al (RepW (Y.lay X.K X.w)) (.ok (.d (.dic ks xs)) (S1.take S.length)) Q _ from h2) (.ref p) _ (al1.take al.length) ⟨?_, Nat.le_refl _, ?_, keepA _⟩ ?_ ?_
        · rw [preA]
        · rw [preA]; exact Nat.le_refl _
        · have := rs2.cutTo al.length
          rw [List.take_set_of_le (Nat.le_refl _)] at this
          rw [← hlS]; exact this
        · simp only [RepW, RepD]
          refine ⟨p, rfl, .inr ⟨zipK qs vs, upd_same, not_mem_take rs1.nd ep, ed1, ?_⟩⟩
          rw [ed2]
          exact rx.stay fun b o e mm => ⟨(kd b o e mm).1, fun z => mm (List.mem_of_mem_take z)⟩
      | true =>
        refine (show Runs (Y.lay X.K X.w) al.length H al (RepW (Y.lay X.K X.w)) (.ok (.loc S.length) (S1.take S.length ++ [.dic ks xs])) Q _ from h2) (.ref p) _ (al1.take (al.length + 1)) ⟨?_, Nat.le_refl _, ?_, keepA _⟩ ?_ ⟨p, ?_, rfl⟩
        · rw [List.take_take, Nat.min_eq_left (by omega), preA, List.take_length]
        · rw [List.length_take]; omega
        · have := rs2.cutTo (al.length + 1)
          rw [set_takeD sl] at this
          rw [← hlS]; exact this
        · rw [← hlS, List.getElem?_take_of_lt (by omega)]; exact ep
  · have : (zipK qs vs).length = qs.length := by
      show (qs.zip vs).length = _
      rw [List.length_zip, e2]; omega
    rw [this, lq, ← kl]; exact h15
  · have hnd : ((zipK qs vs).map (·.1)).Nodup := by
      refine nodupK_ok hn ?_
      show ks.map keyD = _
      rw [eq]
      have : (zipK qs vs).map (fun p => some p.1) = ((zipK qs vs).map (·.1)).map some := by rw [List.map_map]; rfl
      rw [this]
      show qs.map some = (List.map Prod.fst (qs.zip vs)).map some
      rw [List.map_fst_zip (by omega)]
    rw [merge_nil hnd]; exact q2
theorem s_dnew {m : Bool} : PE X (.Dict [] [] pos) (tE Y X n Z (.dsp m [] .nil)) := by
  refine PE.imp pe_dnewK ?_
  rintro σ H Q ⟨env, S, al, re, rs, h⟩ p hp
  have kp := keep_upd (o := HO.dK []) hp
  have rs' := rs.push (o := .dK []) (so := .dic [] []) hp kp ⟨[], upd_same, rfl, .nil⟩
  have st' := Step.push (n := al.length) (H' := upd H p (.dK [])) (Nat.le_refl _) hp kp
  have h' : Runs (Y.lay X.K X.w) al.length H al (RepW (Y.lay X.K X.w)) (accD m S.length [] [] (S ++ [.dic [] []])) Q (AtX Z σ) := h
  unfold accD at h'
  rw [List.getElem?_append_right (Nat.le_refl _), Nat.sub_self] at h'
  simp only [List.getElem?_cons_zero, List.length_nil, Nat.zero_le, nodupK, and_self, if_true, List.take_left'] at h'
  cases m with
  | false =>
    refine (show Runs (Y.lay X.K X.w) al.length H al (RepW (Y.lay X.K X.w)) (.ok (.d (.dic [] [])) S) Q _ from h') (.ref p) _ al (Step.kept (Nat.le_refl _) kp) (rs.kept kp) ?_
    simp only [RepW, RepD]
    exact ⟨p, rfl, .inr ⟨[], upd_same, rs.fresh hp, rfl, by simp [RepDs]⟩⟩
  | true =>
    refine (show Runs (Y.lay X.K X.w) al.length H al (RepW (Y.lay X.K X.w)) (.ok (.loc S.length) (S ++ [.dic [] []])) Q _ from h') (.ref p) _ (al ++ [p]) st' rs' ⟨p, ?_, rfl⟩
    rw [← rs.len]; simp

/-! ### dict(list(a.items())) -/
theorem s_dcp (G : Good Y X n c Z) {a : Ex} {ea : Expr} (hx : ("list" : Str) ∈ Y.fre) (hg : glB c.sc "list" = true) (hx2 : ("dict" : Str) ∈ Y.fre) (hg2 : glB c.sc "dict" = true) (ha : PE X ea (tE Y X n Z a)) (hb : baseOk ea = true) (hl : (apos.endLine == cpos.line) = true) :
    PE X (.Call (.Name "dict" p2) [.Call (.Name "list" p1) [.Call (.Attribute ea "items" apos) [] [] cpos] [] pos1] [] pos2) (tE Y X n Z (.dcp a)) := by
  obtain ⟨g1, g2, g3⟩ := gl_of G hg
  obtain ⟨f1, f2, f3⟩ := gl_of G hg2
  have inner := LiI.pe_listItems (pos := pos1) (p := p1) (cpos := cpos) (apos := apos) G.calm ha g1 (G.lnk.free hx) (by decide +kernel) (base_of hb _ _) hl (star_cons rfl)
  refine PE.imp (pe_callTy (pos := pos2) (p := p2) (call_dictP G.calm) f1 (G.lnk.free hx2) (by decide +kernel) (pa_cons inner pa_nil (star_cons rfl)) f3 f2 (star_cons rfl)) ?_
  rintro σ H Q ⟨env, S, al, re, rs, h⟩
  refine ⟨env, S, al, re, rs, Runs.bind h fun w S1 u H1 al1 _ st rs1 rw_ h1 => ?_⟩
  cases w with
  | d _ => exact h1.elim
  | loc k =>
  simp only at h1
  cases e1 : S1[k]? with
  | none => rw [e1] at h1; exact h1.elim
  | some so =>
  rw [e1] at h1
  cases so with
  | lst _ => exact h1.elim
  | ins _ _ => exact h1.elim
  | hid _ => exact h1.elim
  | dic ks vs =>
  simp only at h1
  split at h1
  case isFalse => exact h1.elim
  rename_i hc
  obtain ⟨b, eb, rfl⟩ := rw_
  obtain ⟨kvs, hd, dr, rv⟩ := rs1.obj k b _ eb e1
  refine ⟨b, kvs, rfl, hd, fun H' q ts keep h1p h1t hpt hq hts => ⟨q, ts, kvs, rfl, .inl (.inl hq), ?_, fun p3 h3 => ?_⟩⟩
  · exact paired_imp hts fun t kv e => .inl (.inl e)
  · rw [merge_nil (nodupK_ok hc.2.2 dr)]
    have hp3 : H1 p3 = none := by
      cases q0 : H1 p3 with
      | none => rfl
      | some o => rw [keep _ _ q0] at h3; cases h3
    have kk : ∀ b o, H1 b = some o → upd H' p3 (.dK kvs) b = some o := fun b o e => keep_upd h3 b o (keep b o e)
    refine h1 (.ref p3) _ (al1 ++ [p3]) (Step.push (Nat.le_refl _) hp3 kk) (rs1.push (so := .dic ks vs) (o := .dK kvs) hp3 kk ⟨kvs, upd_same, dr, rv.stay fun a o e mm => ⟨kk a o e, ?_⟩⟩) ⟨p3, by rw [← rs1.len]; simp, rfl⟩
    simp only [List.mem_append, List.mem_singleton, not_or]
    exact ⟨mm, fun z => by subst z; rw [hp3] at e; cases e⟩
where
  paired_imp : ∀ {α β : Type} {r s : α → β → Prop} {xs : List α} {ys : List β}, Paired r xs ys → (∀ x y, r x y → s x y) → Paired s xs ys := by
    intro α β r s xs ys h k
    induction h with
    | nil => exact .nil
    | cons h _ ih => exact .cons (k _ _ h) ih
end
end Ev
end
section
/-! EvDP: texts backwards. Own work. -/
set_option linter.all false
set_option autoImplicit false
set_option maxRecDepth 100000
set_option maxHeartbeats 2000000
namespace Ev
open PySem PySem.Spec PyProof.Rows L2
theorem picked_rev (z : Tx) (u : Tok) : (slicePicked (tx z) none none (some (-1, u))).filterMap ((tx z).cps[·]?) = z.reverse := by
  have e : slicePicked (tx z) none none (some (-1, u)) = sliceRange ((z.length : Int) - 1) (-1) (-1) := by
    show Builtin.Str.strSliceIndices none none (-1) (tx z).length = _
    rw [show (tx z).length = z.length by simp [tx, Str.length]]
    rfl
  have n : (tx z).cps.size = z.length := by simp [tx]
  rw [e, PySem.W.krv_sliceRange, PySem.W.krv_range, List.filterMap_reverse, ← n, PySem.W.krv_all]
  simp [tx]
section
variable {X : L2.Cx} {p1 p2 p3 pos : Pos} {k : Nat}
theorem pe_revX {e : Expr} {te : TE} (he : PE X e te) : PE X (.Subscript e (.Slice none none (some (.UnaryOp .USub (.Constant (.int 1) k p1) p2)) p3) pos)
    (fun σ H Q => te σ H fun x H1 => (∃ a xs, x = .ref a ∧ SqL X.K H1 a xs ∧ ∀ p, H1 p = none → Q (.ref p) (upd H1 p (.lst xs.reverse))) ∨ ∃ z : Tx, x = .str (tx z) ∧ z.length ≤ lim ∧ Q (.str (tx z.reverse)) H1) := by
  refine ⟨fun pins s σ H Q I h => ?_⟩
  refine Subscript_ (thn (he.run pins s σ H _ I h) fun v s1 ⟨x, H1, I1, r1, q1⟩ => ?_)
  have hst : PO X (some (.UnaryOp .USub (.Constant (.int 1) k p1) p2)) (tPart (L2.tUn (rU fun i => V.int (-i)) (L2.tC (V.int 1)))) := po_some (pe_un un_neg pe_int)
  refine wpAny_Slice (thn (po_none.run pins s1 σ H1 (fun o H2 => o = none ∧ H2 = H1) I1 ⟨rfl, rfl⟩) fun vl s2 ⟨l, H2, I2, pl, el, e2⟩ => ?_)
  subst el e2
  refine thn (po_none.run pins s2 σ H2 (fun o H3 => o = none ∧ H3 = H2) I2 ⟨rfl, rfl⟩) fun vu s3 ⟨u, H3, I3, pu, eu, e3⟩ => ?_
  subst eu e3
  refine thn (hst.run pins s3 σ H3 (fun o H4 => o = some (-1) ∧ H4 = H3) I3 ⟨1, rfl, -1, rfl, rfl, rfl⟩) fun vs s4 ⟨o, H4, I4, ps, eo, e4⟩ => ?_
  subst eo e4
  have I5 : Inv X pins σ H4 { s4 with heap := s4.heap.push { cls := .type "slice", data := .fields #[vl, vu, vs] } } := I4.kept (t' := s4.toks) fun b ob q => Heap.get?_push_of_some _ q
  rcases q1 with ⟨a, xs, ex, hx, q⟩ | ⟨z, ex, hz, q⟩
  · subst ex
    cases r1
    obtain ⟨its, r, ht, hz⟩ := I5.list hx
    have hlen := r.length
    show wpAny (model X.prog X.w) X.A (subscriptTail e (.Slice none none (some (.UnaryOp .USub (.Constant (.int 1) k p1) p2)) p3) (.ref a) (.ref s4.heap.objs.size)) (EP X pins σ Q) X.xe { s4 with heap := s4.heap.push { cls := .type "slice", data := .fields #[vl, vu, vs] } }
    refine tail_any (ops := [.ref a, .ref s4.heap.objs.size]) ht.isList.typeIs (PySem.slot_list_getitem.lookup) ?_ (by with_unfolding_all rfl)
    refine wpAny_getItem_list_slice ht.isList (Heap.IsSliceOf.new _ vl vu vs) pl pu ps (by decide) ?_ (by rw [List.size_toArray]; omega)
    rw [PySem.W.krv_pick]
    refine ⟨.ref _, _, I5.laid (t' := s4.toks) (o := .lst xs.reverse) (fun b ob q => Heap.get?_push_of_some _ q) (Nat.le_refl _) ?_, rfl, q _ (I5.hok.fresh (Nat.le_refl _))⟩
    exact ⟨by rw [List.length_reverse]; exact hz, _, 0, r.reverse, Heap.get?_push_size _ rfl⟩
  · subst ex
    obtain ⟨t, rfl⟩ := r1
    obtain ⟨l, rfl, el⟩ := IsPart.raw pl
    obtain ⟨u, rfl, eu⟩ := IsPart.raw pu
    obtain ⟨o, rfl, eo⟩ := IsPart.raw ps
    cases l with
    | some _ => cases el
    | none =>
    cases u with
    | some _ => cases eu
    | none =>
    cases o with
    | none => cases eo
    | some o =>
    obtain ⟨j, tj⟩ := o
    cases eo
    show wpAny (model X.prog X.w) X.A (subscriptTail e (.Slice none none (some (.UnaryOp .USub (.Constant (.int 1) k p1) p2)) p3) (.str (tx z) t) (.ref s4.heap.objs.size)) (EP X pins σ Q) X.xe _
    refine tail_any (ops := [.str (tx z) t, .ref s4.heap.objs.size]) (typeIs_str _ _ _) PySem.F.slot_str_getitem.lookup ?_ (by with_unfolding_all rfl)
    refine wpAny_getItem_str_slice (l := none) (u := none) (st := some (-1, tj)) ⟨_, Heap.get?_push_size _ rfl, rfl, rfl⟩ rfl ?_
    show (if (((-1 : Int) == 1) && _) = true then Made.val (.str (tx z) t) else Made.str ⟨((slicePicked (tx z) none none (some (-1, tj))).filterMap ((tx z).cps[·]?)).toArray⟩).post (EP X pins σ Q) _
    rw [picked_rev]
    rw [if_neg (by simp)]
    refine ⟨?_, .str _, H4, I5.tok _, ⟨_, rfl⟩, q⟩
    show z.reverse.toArray.size ≤ sizeLine
    rw [List.size_toArray, List.length_reverse]
    exact Nat.le_trans hz lim_line
end
section
variable {Y : Txt} {X : Cx} {n : Nat} {c : Sco} {Z : WX} {pos p1 p2 p3 : Pos}
theorem s_rev {a : Ex} {ea : Expr} {k : Nat} (ha : PE X ea (tE Y X n Z a)) : PE X (.Subscript ea (.Slice none none (some (.UnaryOp .USub (.Constant (.int 1) k p1) p2)) p3) pos) (tE Y X n Z (.rev a)) := by
  refine PE.imp (pe_revX ha) ?_
  rintro σ H Q ⟨env, S, al, re, rs, h⟩
  refine ⟨env, S, al, re, rs, Runs.bind h fun w S1 u H1 al1 _ st rs1 rw_ h1 => ?_⟩
  split at h1
  · rename_i xs e
    obtain ⟨b, vs, rfl, hb, rv⟩ := rw_.rt rs1 e
    exact .inl ⟨b, vs, rfl, .inl (.inl hb), fun q hq => fresh_ok (m := false) h1 rs1 rv.reverse hq⟩
  · rename_i z e
    obtain ⟨rfl, hz⟩ := (rw_.rt rs1 e)
    have hz2 : z.reverse.length ≤ lim := by rw [List.length_reverse]; exact hz
    exact .inr ⟨z, rfl, hz, h1.here (Nat.le_refl _) rs1 (show RepD _ _ _ _ _ by simpa only [RepD, true_and] using hz2)⟩
  · exact h1.elim
end
end Ev
end
section
/-! EvDQ: own __len__ and __call__, !r of data. Own work. -/
set_option linter.all false
set_option autoImplicit false
set_option maxRecDepth 100000
set_option maxHeartbeats 2000000
namespace Ev
open PySem PySem.Spec PyProof.Rows L2
section
variable {Y : Txt} {X : Cx} {n : Nat} {c : Sco} {Z : WX} {pos apos p : Pos}
section
variable {pins : List (Addr × Obj)} {s : Shared} {σ : L2.St} {H : Hp}
theorem own_gm (G : Good Y X n c Z) {A : Around} {g : Nat} {m : Nat} {ws : List W} {S : Store} {al : List Addr} {vs : List V} {us : List Value} {Q : VK} {E' : Value → Shared → Prop} {Q' : Value → Shared → Prop} (need : ∀ d, Y.defs[g]? = some d → spOk d [] m [] = true) (lw : ws.length = m)
    (hr : Room (4 * n) A) (gd : A.guards = some []) (e0 : Env0 X.prog X.w X.K X.mg X.base A X.stack s H) (I : Inv X pins σ H s) (rs : RelS (Y.lay X.K X.w) H S al) (rw_ : RepWs (Y.lay X.K X.w) H al ws vs) (rv : Vals vs us)
    (h : Runs (Y.lay X.K X.w) al.length H al (RepW (Y.lay X.K X.w)) (callD Y.T n g ws S).noex Q fun _ _ _ => False) (hq : ∀ u s', EP X pins σ Q u s' → Q' u s') : ∃ d, Y.defs[g]? = some d ∧ wpAny (model X.prog X.w) A (call (.ref (Y.ad X.K g)) us) Q' E' s := by
  obtain ⟨d, hd⟩ := call_def G.sig (n := n) (g := g) (ws := ws) (S := S) (fun e => by rw [e] at h; exact h)
  refine ⟨d, hd, ?_⟩
  rw [Txt.ad_of hd]
  obtain ⟨fd, hF⟩ := G.lnk.def_ hd
  obtain ⟨fn, hfn, h1, h2, -⟩ := sig_of G.sig hd
  obtain ⟨gs, gus, r1, r2, r3, r4⟩ := args_of (K := X.K) (g := g) (m := m) (ks := []) (sp := []) (ws := ws) (zs := []) (fs := ws) (us := us) (uz := []) hF h1 hfn h2 (need d hd) rfl rw_ .nil rv .nil (by rw [← rv.length, ← rw_.length, lw]) rfl
  exact own_run (G.fns g d hd fd hF) hr gd e0 I r3 (r4 s I.kIn) r2 ⟨ws, S, al, rs, r1, h.noex _⟩ hq
end
/-- the methods m of all classes take so many arguments, told by place -/
def msOk (Y : Txt) (m k : Nat) : Bool := Y.T.cls.all fun c => match c.ms.lookup m with
  | some g => (match Y.defs[g]? with
    | some d => spOk d [] k []
    | none => true)
  | none => true
theorem specM_some {T : Tab} {S : Store} {w : W} {m g : Nat} (e : specM T S w m = some g) : ∃ cc k, clsOf S w = some cc ∧ T.cls[cc]? = some k ∧ k.ms.lookup m = some g := by
  obtain ⟨cc, h1, e⟩ := Option.bind_eq_some_iff.mp e
  obtain ⟨k, h2, e⟩ := Option.bind_eq_some_iff.mp e
  exact ⟨cc, k, h1, h2, e⟩
theorem msOk_of {m k : Nat} (h : msOk Y m k = true) {c : Cl} (hc : c ∈ Y.T.cls) {g : Nat} (hg : c.ms.lookup m = some g) : ∀ d, Y.defs[g]? = some d → spOk d [] k [] = true := by
  intro d hd
  have := List.all_eq_true.1 h c hc
  rw [hg] at this
  simpa [hd] using this
/-- len of an instance -/
def rLen (Y : Txt) (X : Cx) (n m : Nat) : List V → Hp → VK → Prop := fun xs H Q => ∃ w S al E, RelS (Y.lay X.K X.w) H S al ∧ RepWs (Y.lay X.K X.w) H al [w] xs ∧ Runs (Y.lay X.K X.w) al.length H al (RepW (Y.lay X.K X.w)) (match specM Y.T S w m with
    | some g => (callD Y.T n g [w] S).noex.bind asLen
    | none => .bad) Q E
theorem asLen_of {L : Lay} {N : Nat} {H : Hp} {al : List Addr} {r : W} {S : Store} {Q : VK} {E : XK} {u : V} (h : Runs L N H al (RepW L) (asLen r S) Q E) (hn : N ≤ al.length) (rs : RelS L H S al) (rr : RepW L H al r u) : ∃ i : Int, u = .int i ∧ 0 ≤ i ∧ i < 2 ^ 62 ∧ Q u H := by
  cases r with
  | loc k => exact h.elim
  | d z =>
    cases z with
    | int i =>
      have e : u = .int i := by simpa only [RepW, RepD] using rr
      have h : Runs L N H al (RepW L) (if 0 ≤ i ∧ i < 2 ^ 62 then .ok (.d (.int i)) S else .bad) Q E := h
      by_cases q : 0 ≤ i ∧ i < 2 ^ 62
      · rw [if_pos q] at h
        exact ⟨i, e, q.1, q.2, Runs.here (Rq := RepW L) h hn rs rr⟩
      · rw [if_neg q] at h
        exact h.elim
    | _ => exact h.elim
theorem call_lenO (G : Good Y X n c Z) {m : Nat} (hm : Y.an[m]? = some "__len__") (ho : msOk Y m 1 = true) : CallR X (.builtin "len") (rLen Y X n m) := by
  intro pins s σ H xs us Q I r h
  obtain ⟨w, S, al, E, rs, rw_, h⟩ := h
  cases e : specM Y.T S w m with
  | none => rw [e] at h; exact h.elim
  | some g =>
    rw [e] at h
    obtain ⟨cc, k, ec, ek, eg⟩ := specM_some e
    have km := List.mem_of_getElem? ek
    obtain ⟨v, l, rfl, r1, rfl⟩ := rw_
    obtain ⟨a, dx, fs, rfl, ea⟩ := ins_at rs r1 ec
    obtain ⟨u, rfl, ru⟩ := r.one
    cases ru
    obtain ⟨xn, CF⟩ := cls_get G ek
    obtain ⟨mA, O, -⟩ := ins_get I.hok ea
    obtain ⟨od, J, -⟩ := O.look
    have M := CF.ms m g eg
    have em : Y.an.getD m "" = "__len__" := by rw [List.getD_eq_getElem?_getD, hm]; rfl
    rw [em] at M
    have hw : Runs (Y.lay X.K X.w) al.length H al (RepW (Y.lay X.K X.w)) (callD Y.T n g [w] S).noex (fun v H' => (∃ i : Int, v = .int i ∧ 0 ≤ i ∧ i < 2 ^ 62) ∧ Q v H') fun _ _ _ => False := Runs.noexE (Runs.bind h fun r S1 u H1 al1 _ st rs1 rr h3 => by
      obtain ⟨i, e, q0, q1, q⟩ := asLen_of h3 (Nat.le_refl _) rs1 rr
      exact ⟨⟨i, e, q0, q1⟩, q⟩)
    have hq : ∀ u s', EP X pins σ (fun v H' => (∃ i : Int, v = .int i ∧ 0 ≤ i ∧ i < 2 ^ 62) ∧ Q v H') u s' → ∃ (i : Int) (t : Tok), u = .int i t ∧ 0 ≤ i ∧ i < 2 ^ 62 ∧ ∃ H', Inv X pins σ H' s' ∧ Q (.int i) H' := by
      rintro u s' ⟨z, H', I', rz, ⟨i, rfl, q0, q1⟩, q⟩
      obtain ⟨tk, e⟩ := (show ∃ tk, u = Value.int i tk from rz)
      exact ⟨i, tk, e, q0, q1, H', I', q⟩
    obtain ⟨d, -, hr⟩ := own_gm G (A := X.A.in1) (E' := X.xe) (msOk_of ho km eg) rfl (G.room.mono (j := 4 * n + 1) (by omega)).in1 G.gd I.env0.in1 I rs (.cons r1 .nil) (.cons rfl .nil) hw hq
    refine Calls.call_function_entry kind_len plain_len entry_len (args_len1 _) ?_
    unfold Builtin.«len»
    refine wpAny_bind (m := oneArg "len" _) (wpAny_pure ?_)
    refine wpAny_bind (m := callSpecial? (.ref a) (PySem.Str.ofString "__len__")) (PySem.W.special_fn I.kIn J M.at_ (beq_iff_eq.mp M.fn) (wpAny_mono hr (fun v s' z => ?_) fun _ _ y => y))
    obtain ⟨i, t, rfl, q0, q1, H', I', q⟩ := z
    refine wpAny_bind (wpAny_holding (wpAny_pure ?_))
    refine wpAny_bind (wpAny_letGo ?_)
    show wpAny _ _ (if i < 0 then _ else _) _ _ _
    rw [if_neg (by omega)]
    show wpAny _ _ (if i ≥ 2 ^ 63 then _ else _) _ _ _
    rw [if_neg (by omega)]
    exact wpAny_bind (wpAny_mkInt (wpAny_pure ⟨_, rfl, .int i, H', I'.tok _, ⟨_, rfl⟩, q⟩))
theorem s_lenO (G : Good Y X n c Z) {a : Ex} {ea : Expr} {m : Nat} (hx : ("len" : Str) ∈ Y.fre) (hg : glB c.sc "len" = true) (ha : PE X ea (tE Y X n Z a)) (hs : notStar ea = true) (hm : Y.an[m]? = some "__len__") (ho : msOk Y m 1 = true) :
    PE X (.Call (.Name "len" p) [ea] [] pos) (tE Y X n Z (.lenO a m)) := by
  obtain ⟨g1, g2, g3⟩ := gl_of G hg
  refine PE.imp (pe_callB (call_lenO G hm ho) g1 (G.lnk.free hx) (by decide +kernel) (pa_cons ha pa_nil (star_cons hs)) g3 g2 (star_cons hs)) ?_
  rintro σ H Q ⟨env, S, al, re, rs, h⟩
  exact ⟨env, S, al, re, rs, Runs.bind h fun w S1 u H1 al1 _ st rs1 rw_ h1 => ⟨w, S1, al1, _, rs1, .cons rw_ .nil, h1⟩⟩
/-! ### {x!r} of data -/
theorem pe_fmtRd {L : Lay} (hK : L.K = X.K) (hg : X.A.guards = some []) (hu : X.A.units + 64 < cLine) {e : Expr} {te : TE} (he : PE X e te) : PE X (.FormattedValue e 114 none pos)
    (fun σ H Q => te σ H fun x H1 => (∃ y : Str, x = .str y ∧ (reprText y).length ≤ sizeLine ∧ Q (.str (reprText y)) H1) ∨ (∃ i : Int, x = .int i ∧ i.natAbs.log2 < 1920 ∧ Q (.str (toString i)) H1) ∨
      ∃ al d a, x = .ref a ∧ RT L H1 al d x ∧ reprOk d = true ∧ Q (.str (tx (reprD d))) H1) := by
  refine ⟨fun pins s σ H Q I h => ?_⟩
  refine wpAny_FormattedValue_repr (thn (he.run pins s σ H _ I h) fun v s1 hv => ?_)
  obtain ⟨x, H1, I1, r1, q⟩ := hv
  rcases q with ⟨y, rfl, hz, q⟩ | ⟨i, rfl, hz, q⟩ | ⟨al, d, a, rfl, rd, ho, q⟩
  · obtain ⟨t, rfl⟩ := r1
    exact pyReprObj_str (wpAny_formatField_str ⟨.str (reprText y), H1, I1.tok _, ⟨_, rfl⟩, q⟩ ⟨.str (reprText y), H1, I1.tok _, ⟨_, rfl⟩, q⟩ hz) hz
  · obtain ⟨t, rfl⟩ := r1
    exact pyReprObj_int hz (wpAny_formatField_str ⟨.str (toString i), H1, I1.tok _, ⟨_, rfl⟩, q⟩ ⟨.str (toString i), H1, I1.tok _, ⟨_, rfl⟩, q⟩ (int_text_fits hz))
  · simp only [reprOk, Bool.and_eq_true, decide_eq_true_eq] at ho
    obtain ⟨hs, hl⟩ := ho
    have hsh := showy_shp 20 d hs
    have e : (toPy d).shown = tx (reprD d) := by unfold reprD; rw [tx_self]
    have hsz : (toPy d).shown.length ≤ sizeLine := by
      have : (toPy d).shown.length = (reprD d).length := by simp [reprD, Str.length]
      rw [this]; exact Nat.le_trans hl lim_line
    have dp := dp_rt (al := al) hsh rd
    obtain rfl : v = Value.ref a := r1
    have rr : RelV (.ref a) (.ref a) := rfl
    obtain ⟨as, rd⟩ := Dp.reads I1 _ _ _ (hK ▸ dp) rr
    refine pyReprObj_of_reads rd (showable_of 20 d hs) (fun z => by rw [nodic_of 20 d hsh] at z; cases z) hg ?_ (fun _ _ e => e) (fun h' t tk hk => ?_) hsz
    · have := depth_of 20 d hsh
      omega
    · have I2 : Inv X pins σ H1 { s1 with heap := h', toks := tk } := I1.kept (h' := h') (t' := tk) hk
      rw [e] at *
      exact wpAny_formatField_str ⟨.str _, H1, I2, ⟨_, rfl⟩, q⟩ ⟨.str _, H1, I2.tok _, ⟨_, rfl⟩, q⟩ hsz
theorem s_fmr (G : Good Y X n c Z) {a : Ex} {ea : Expr} (ha : PE X ea (tE Y X n Z a)) : PE X (.FormattedValue ea 114 none pos) (tE Y X n Z (.fmr a)) := by
  have hu := G.room.un
  refine PE.imp (pe_fmtRd (L := Y.lay X.K X.w) lay_K G.gd (by omega) ha) ?_
  rintro σ H Q ⟨env, S, al, re, rs, h⟩
  refine ⟨env, S, al, re, rs, Runs.bind h fun x S1 u H1 al1 _ st rs1 rx h1 => ?_⟩
  obtain ⟨z, ez, h2⟩ := h1.of_bind
  obtain ⟨d, ed, ez⟩ := Option.bind_eq_some_iff.mp ez
  have r := rx.rt rs1 ed
  have g := opS_of h2 rs1
  cases d <;> simp only [fmrD, reduceCtorEq, Option.some.injEq, Option.ite_none_right_eq_some] at ez
  case int i =>
    obtain ⟨hs, rfl⟩ := ez
    refine .inr (.inl ⟨_, r.int, log2_of hs, ?_⟩)
    have q := g.str (strI_len hs)
    unfold strI at q
    rw [tx_self] at q
    exact q
  case str t =>
    obtain ⟨hl, rfl⟩ := ez
    have e : reprText (tx t) = tx (reprD (.str t)) := by
      unfold reprD
      rw [tx_self]
      rfl
    refine .inl ⟨_, r.str, ?_, ?_⟩
    · rw [e, tx_len]; exact Nat.le_trans hl lim_line
    · rw [e]; exact g.str hl
  case lst xs =>
    obtain ⟨ho, rfl⟩ := ez
    have ho2 := ho
    simp only [reprOk, Bool.and_eq_true, decide_eq_true_eq] at ho2
    obtain ⟨b, vs, rfl, hb, rv⟩ := r
    exact .inr (.inr ⟨al1, .lst xs, b, rfl, ⟨b, vs, rfl, hb, rv⟩, ho, g.str ho2.2⟩)
  case tup xs =>
    obtain ⟨ho, rfl⟩ := ez
    have ho2 := ho
    simp only [reprOk, Bool.and_eq_true, decide_eq_true_eq] at ho2
    have r' := r
    obtain ⟨b, vs, rfl, hb, rv⟩ := r.tup
    exact .inr (.inr ⟨al1, .tup xs, b, rfl, r', ho, g.str ho2.2⟩)
/-! ### a(e) of an instance -/
theorem s_callO (G : Good Y X n c Z) {a b : Ex} {x : Str} {eb : Expr} {m : Nat} (ha : PE X (.Name x p) (tE Y X n Z a)) (hb : PE X eb (tE Y X n Z b)) (hs : notStar eb = true) (hm : Y.an[m]? = some "__call__") (ho : msOk Y m 2 = true) :
    PE X (.Call (.Name x p) [eb] [] pos) (tE Y X n Z (.callO a m b)) := by
  refine ⟨fun pins s σ H Q I h => ?_⟩
  obtain ⟨env, S, al, re, rs, h⟩ := h
  refine wpAny_Call_Name_kw (thn (ha.run pins s σ H (fun u H1 => ∃ w S1 al1, RelE (Y.lay X.K X.w) H1 al1 env σ ∧ RelS (Y.lay X.K X.w) H1 S1 al1 ∧ RepW (Y.lay X.K X.w) H1 al1 w u ∧ Runs (Y.lay X.K X.w) al1.length H1 al1 (RepW (Y.lay X.K X.w)) (match w with
    | .d (.ins cc xs) => (match specM Y.T S1 (.d (.ins cc xs)) m with
      | some g => (evE Y.T (callD Y.T n) b env S1).bind fun y S2 => callD Y.T n g [.d (.ins cc xs), y] S2
      | none => .bad)
    | _ => .bad) Q (AtX Z σ)) I ?_) ?_)
  · exact ⟨env, S, al, re, rs, Runs.bind h fun w S1 u H1 al1 _ st rs1 rw_ h1 => ⟨w, S1, al1, re.step st (Nat.le_refl _), rs1, rw_, h1⟩⟩
  · rintro uv s1 ⟨u, H1, I1, ru, w, S1, al1, re1, rs1, rw_, h⟩
    cases w with
    | loc _ => exact h.elim
    | d y =>
      cases y with
      | ins cc xs =>
        simp only at h
        cases e : specM Y.T S1 (.d (.ins cc xs)) m with
        | none => rw [e] at h; exact h.elim
        | some g =>
          rw [e] at h
          simp only at h
          obtain ⟨cc', k, ec, ek, eg⟩ := specM_some e
          cases ec
          have km := List.mem_of_getElem? ek
          obtain ⟨xn, CF⟩ := cls_get G ek
          obtain ⟨a', dx, fs, rfl, e2, e3, e4, e5⟩ := (show RepD (Y.lay X.K X.w) H1 al1 (.ins cc xs) u from rw_)
          obtain rfl : uv = Value.ref a' := ru
          have em : Y.an.getD m "" = "__call__" := by rw [List.getD_eq_getElem?_getD, hm]; rfl
          have M := CF.ms m g eg
          rw [em] at M
          have AT := M.at_
          have FN := M.fn
          obtain ⟨d, hd⟩ : ∃ d, Y.defs[g]? = some d := by
            cases hd : Y.defs[g]? with
            | some d => exact ⟨d, rfl⟩
            | none =>
              obtain ⟨-, -, hgd⟩ := (stat_of G.stat).ms k km m g eg
              exact absurd hgd (by rw [List.getElem?_eq_none_iff] at hd; omega)
          rw [Txt.ad_of hd] at AT FN
          obtain ⟨fd, F⟩ := G.lnk.def_ hd
          obtain ⟨fn, hfn, q1, q2, -⟩ := sig_of G.sig hd
          have fi : PySem.W.fnIn X.K (pAd X.K d.at_) = true := by
            obtain ⟨oc, od, dV, kV, doc, pm, an, cdv, ct, osl, -, hlk, -⟩ := F.ex
            unfold PySem.W.fnIn
            rw [hlk]
          refine StX.callO_with (thn ((pa_cons hb pa_nil (star_cons hs)).run pos pins s1 σ H1 (fun vs H2 => ∃ v y S2 al2, vs = [v] ∧ Step al1.length H1 al1 H2 al2 ∧ RelS (Y.lay X.K X.w) H2 S2 al2 ∧ RepW (Y.lay X.K X.w) H2 al2 y v ∧ Runs (Y.lay X.K X.w) al2.length H2 al2 (RepW (Y.lay X.K X.w)) (callD Y.T n g [.d (.ins cc xs), y] S2) Q (AtX Z σ)) I1 ?_) ?_) (star_cons hs) rfl
          · exact ⟨env, S1, al1, re1, rs1, h.bind fun y S2 v H2 al2 _ st2 rs2 ry h2 => ⟨v, y, S2, al2, rfl, st2, rs2, ry, h2⟩⟩
          · rintro us s2 ⟨vs, H2, I2, rvs, v, y, S2, al2, rfl, st2, rs2, ry, h2⟩
            have ea2 := (st2.keep _ _ e2 e3).1
            obtain ⟨ox, od, J, hpd⟩ := StX.insC_at I2 (.inr ⟨dx, fs, ea2⟩)
            refine ⟨⟨_, ox, od, J, hpd⟩, ?_⟩
            have self : RepW (Y.lay X.K X.w) H2 al2 (.d (.ins cc xs)) (.ref a') := RepW.step st2 (w := .d (.ins cc xs)) rw_ (Nat.le_refl _)
            obtain ⟨gs, gus, r1, r2, r3, r4⟩ := args_of (K := X.K) (g := g) (m := 2) (ks := []) (sp := []) (ws := [.d (.ins cc xs), y]) (zs := []) (fs := [.d (.ins cc xs), y]) (us := .ref a' :: us) (uz := []) F q1 hfn q2 (msOk_of ho km eg d hd) rfl (.cons self (.cons ry .nil)) .nil (.cons rfl rvs) .nil (by rw [List.length_cons, ← rvs.length]; rfl) rfl
            exact wpAny_call (PySem.W.kco_code I2.kIn J hpd AT FN fi (codeAny_mono ((G.fns g d hd fd F).run X.A X.stack s2 H2 ⟨.ref a' :: us, []⟩ gus gs Q (AtX Z σ) (G.room.mono (by omega)) G.gd I2.env0 r3 (r4 s2 I2.kIn) r2 ⟨_, S2, al2, rs2, r1, h2⟩) fun r s' hq => by
              have := back_to (Q' := EP X pins σ Q) G.tk I2 (fun _ z => z) hq
              cases r with
              | error e => exact this
              | ok fl => cases fl <;> exact this))
      | _ => exact h.elim
end
end Ev
end
section
/-! EvDC: statements. Own work. -/
set_option linter.all false
set_option autoImplicit false
set_option maxRecDepth 100000
set_option maxHeartbeats 1000000
namespace Ev
open PySem PySem.Spec PyProof.Rows L2

/-- what a block's end promises -/
def FlR (L : Lay) (D : Ends) (Z : WX) (H : Hp) (al : List Addr) : Fl → Prop
  | .nx e => ∀ σ, RelE L H al e σ → D.nx σ H
  | .bk e => ∀ σ, RelE L H al e σ → D.bk σ H
  | .ct e => ∀ σ, RelE L H al e σ → D.ct σ H
  | .rt w => ∀ v, RepW L H al w v → D.rt v H
  | .ex c vs e => ∀ σ cls d, RelE L H al e σ → XR L H al c vs cls d → Z cls d σ H
/-- a block's run from (H, al): the first n objects are the callers' -/
def RunF (L : Lay) (n : Nat) (H : Hp) (al : List Addr) (D : Ends) (Z : WX) : R Fl → Prop
  | .ok fl S => ∀ H' al', Step n H al H' al' → RelS L H' S al' → FlR L D Z H' al' fl
  | .ex _ _ _ => False
  | .bad => False
section
variable {L : Lay} {m : Nat} {H H1 : Hp} {al al1 : List Addr} {D : Ends} {Z : WX}
theorem RunF.on {k : R Fl} (h : RunF L m H al D Z k) (st : Step m H al H1 al1) : RunF L m H1 al1 D Z k := by
  cases k with
  | ok fl S => exact fun H' al' s => h H' al' (st.trans s)
  | ex _ _ _ => exact h
  | bad => exact h
theorem RunF.bindX {α β : Type} {Rp : Hp → List Addr → α → β → Prop} {r : R α} {f : α → Store → R Fl} {env : Env} {σ : L2.St} {Q : β → Hp → Prop} (h : RunF L m H al D Z (R.bindX env r f)) (re : RelE L H al env σ) (hm : m ≤ al.length)
    (k : ∀ a S1 b H1 al1, r = .ok a S1 → Step al.length H al H1 al1 → RelS L H1 S1 al1 → Rp H1 al1 a b → RunF L m H1 al1 D Z (f a S1) → Q b H1) : Runs L al.length H al Rp r Q (AtX Z σ) := by
  cases r with
  | ok a S => exact fun b H' al' st rs rp => k a S b H' al' rfl st rs rp (RunF.on (k := f a S) h (st.mono hm))
  | ex c vs S => exact fun cls d H' al' st rs xr => h H' al' (st.mono hm) rs σ cls d (re.step st (Nat.le_refl _)) xr
  | bad => exact h.elim
theorem RunF.here {fl : Fl} {S : Store} (h : RunF L m H al D Z (.ok fl S)) (hm : m ≤ al.length) (rs : RelS L H S al) : FlR L D Z H al fl := h H al (Step.refl hm) rs
/-- another end -/
theorem FlR.imp {D' : Ends} {fl : Fl} (h : FlR L D Z H al fl) (h1 : ∀ σ H, D.nx σ H → D'.nx σ H) (h2 : ∀ v H, D.rt v H → D'.rt v H) (h3 : ∀ σ H, D.bk σ H → D'.bk σ H) (h4 : ∀ σ H, D.ct σ H → D'.ct σ H) : FlR L D' Z H al fl := by
  cases fl with
  | nx e => exact fun σ r => h1 _ _ (h σ r)
  | bk e => exact fun σ r => h3 _ _ (h σ r)
  | ct e => exact fun σ r => h4 _ _ (h σ r)
  | rt w => exact fun v r => h2 _ _ (h v r)
  | ex c vs e => exact h
end
section
variable (Y : Txt) (X : Cx) (n : Nat) (Z : WX)
def tS (s : Sm) : TS := fun D σ H => ∃ m env S al, m ≤ al.length ∧ RelE (Y.lay X.K X.w) H al env σ ∧ RelS (Y.lay X.K X.w) H S al ∧ RunF (Y.lay X.K X.w) m H al D Z (evS Y.T (callD Y.T n) m s env S)
def tSs (s : Sms) : TS := fun D σ H => ∃ m env S al, m ≤ al.length ∧ RelE (Y.lay X.K X.w) H al env σ ∧ RelS (Y.lay X.K X.w) H S al ∧ RunF (Y.lay X.K X.w) m H al D Z (evSs Y.T (callD Y.T n) m s env S)
end
section
variable {Y : Txt} {X : Cx} {n : Nat} {c : Sco} {Z : WX} {pos pos' : Pos}
/-- values that are no comprehension -/
def noComp : Expr → Bool
  | .ListComp _ _ _ _ => false
  | .SetComp _ _ _ _ => false
  | .DictComp _ _ _ _ _ => false
  | _ => true
theorem sw_false {e : Expr} {t : Option Expr} {l : Nat} {env : PySem.Env} (h : noComp e = true) : swapsWith e t l env = pure false := by
  cases e <;> first | rfl | cases h
/-- stored names -/
structure Nms (X : Cx) (c : Sco) (i : Nat) (x : Str) : Prop where
  at_ : X.N[i]? = some x
  loc : Loc X.env.scope x
  st : X.fn x = true ∨ X.env.scope.names.lookup x = some .local
theorem nms_of (G : Good Y X n c Z) {i : Nat} {x : Str} (h1 : c.N[i]? = some x) (h2 : locB c x = true) : Nms X c i x := ⟨by rw [G.names]; exact h1, (loc_of G h2).1, (loc_of G h2).2⟩

/-! ### small statements -/
theorem z_never {st : Stmt} {k : Nat} {es : Exs} : PS X st (tS Y X n Z (.rais k es)) := PS.imp ps_never (by
  rintro D σ H ⟨m, env, S, al, hm, re, rs, h⟩
  exact h)
theorem z_pass {st : Stmt} (h : PS X st tNext) : PS X st (tS Y X n Z .pass) := PS.imp h (by
  rintro D σ H ⟨m, env, S, al, hm, re, rs, h⟩
  exact RunF.here (fl := .nx env) h hm rs σ re)
theorem z_brk : PS X (.Break pos) (tS Y X n Z .brk) := PS.imp ps_break (by
  rintro D σ H ⟨m, env, S, al, hm, re, rs, h⟩
  exact RunF.here (fl := .bk env) h hm rs σ re)
theorem z_cnt : PS X (.Continue pos) (tS Y X n Z .cnt) := PS.imp ps_continue (by
  rintro D σ H ⟨m, env, S, al, hm, re, rs, h⟩
  exact RunF.here (fl := .ct env) h hm rs σ re)
theorem z_expr {e : Ex} {ea : Expr} (he : PE X ea (tE Y X n Z e)) (hc : noComp ea = true) : PS X (.Expr ea pos) (tS Y X n Z (.expr e)) := PS.imp (ps_expr he (sw_false hc)) (by
  rintro D σ H ⟨m, env, S, al, hm, re, rs, h⟩
  exact ⟨env, S, al, re, rs, RunF.bindX (Rp := RepW (Y.lay X.K X.w)) h re hm fun w S1 v H1 al1 _ st rs1 _ h1 => RunF.here (fl := .nx env) h1 (Nat.le_trans hm st.le') rs1 σ (re.step st (Nat.le_refl _))⟩)
theorem z_ret {e : Ex} {ea : Expr} (he : PE X ea (tE Y X n Z e)) : PS X (.Return (some ea) pos) (tS Y X n Z (.ret e)) := PS.imp (ps_ret he) (by
  rintro D σ H ⟨m, env, S, al, hm, re, rs, h⟩
  exact ⟨env, S, al, re, rs, RunF.bindX (Rp := RepW (Y.lay X.K X.w)) h re hm fun w S1 v H1 al1 _ st rs1 rw_ h1 => RunF.here (fl := .rt w) h1 (Nat.le_trans hm st.le') rs1 v rw_⟩)
theorem z_retN : PS X (.Return none pos) (tS Y X n Z .retN) := PS.imp ps_retN (by
  rintro D σ H ⟨m, env, S, al, hm, re, rs, h⟩
  exact RunF.here (fl := .rt (.d .non)) h hm rs .non (by simp [RepW, RepD]))
theorem z_ite {e : Ex} {a b : Sms} {ea : Expr} {as bs : List Stmt} (he : PT X ea (tT Y X n Z e)) (ha : PSs X as (tSs Y X n Z a)) (hb : PSs X bs (tSs Y X n Z b)) : PS X (.If ea as bs pos) (tS Y X n Z (.ite e a b)) := PS.imp (ps_if he ha hb) (by
  rintro D σ H ⟨m, env, S, al, hm, re, rs, h⟩
  refine ⟨env, S, al, re, rs, RunF.bindX (Rp := fun _ _ a b => a = b) h re hm fun k S1 b H1 al1 _ st rs1 e h1 => ?_⟩
  subst e
  cases k with
  | true => exact ⟨m, env, S1, al1, Nat.le_trans hm st.le', re.step st (Nat.le_refl _), rs1, h1⟩
  | false => exact ⟨m, env, S1, al1, Nat.le_trans hm st.le', re.step st (Nat.le_refl _), rs1, h1⟩)

/-! ### storing -/
theorem asg_read {e : Ex} {i : Nat} {D : Ends} {σ : L2.St} {H : Hp} (h : tS Y X n Z (.asg (.name i) e) D σ H) : tAsg (tE Y X n Z e) (gName i) D σ H := by
  obtain ⟨m, env, S, al, hm, re, rs, h⟩ := h
  have h' : RunF (Y.lay X.K X.w) m H al D Z (R.bindX env ((evE Y.T (callD Y.T n) e env S).bind fun w S1 => if i < env.length then .ok (env.set i (some w)) S1 else .bad) fun e S2 => .ok (.nx e) S2) := h
  have hr := RunF.bindX (Rp := fun H1 al1 (e : Env) (w : V) => ∃ x, e = env.set i (some x) ∧ RepW (Y.lay X.K X.w) H1 al1 x w) (Q := fun v H1 => gName i v σ H1 D.nx) h' re hm (by
    rintro e' S1 v H1 al1 - st rs1 ⟨x, rfl, rx⟩ h1
    exact RunF.here h1 (Nat.le_trans hm st.le') rs1 _ ((re.step st (Nat.le_refl _)).set rx))
  refine ⟨env, S, al, re, rs, Runs.bind (Rp := RepW (Y.lay X.K X.w)) hr fun w S1 v H1 al1 _ st rs1 rw_ h1 => ?_⟩
  split at h1
  · exact h1.here (Nat.le_refl _) rs1 ⟨w, rfl, rw_⟩
  · exact h1.elim
theorem z_set (G : Good Y X n c Z) {e : Ex} {ea : Expr} {i : Nat} {x : Str} (he : PE X ea (tE Y X n Z e)) (h1 : c.N[i]? = some x) (h2 : locB c x = true) (hc : noComp ea = true) : PS X (.Assign [.Name x pos'] ea pos) (tS Y X n Z (.asg (.name i) e)) := by
  have N := nms_of G h1 h2
  exact PS.imp (ps_set G.nd N.at_ N.loc he (sw_false hc) N.st) fun D σ H h => asg_read h
theorem z_setLc {e : Ex} {i : Nat} {st : Stmt} (h : PS X st (tAsg (tE Y X n Z e) (gName i))) : PS X st (tS Y X n Z (.asg (.name i) e)) := PS.imp h fun D σ H h => asg_read h
/-- a target's reading -/
def gT (Y : Txt) (X : Cx) (n : Nat) (Z : WX) (t : Tg) : TG := fun v σ H Q => ∃ env S al w, RelE (Y.lay X.K X.w) H al env σ ∧ RelS (Y.lay X.K X.w) H S al ∧ RepW (Y.lay X.K X.w) H al w v ∧
  Runs (Y.lay X.K X.w) al.length H al (fun H' al' e σ' => RelE (Y.lay X.K X.w) H' al' e σ') (evTg Y.T (callD Y.T n) t w env S) Q (AtX Z σ)
def gTs (Y : Txt) (X : Cx) (n : Nat) (Z : WX) (ts : List Tg) : TGs := fun vs σ H Q => ∃ env S al ds, RelE (Y.lay X.K X.w) H al env σ ∧ RelS (Y.lay X.K X.w) H S al ∧ RepDs (Y.lay X.K X.w) H al ds vs ∧
  Runs (Y.lay X.K X.w) al.length H al (fun H' al' e σ' => RelE (Y.lay X.K X.w) H' al' e σ') (evTgs Y.T (callD Y.T n) ts ds env S).noex Q fun _ _ _ => False
theorem gt_name (G : Good Y X n c Z) {i : Nat} {x : Str} (h1 : c.N[i]? = some x) (h2 : locB c x = true) : PG X (.Name x pos) (gT Y X n Z (.name i)) := by
  have N := nms_of G h1 h2
  refine PG.imp (pg_name G.nd N.at_ N.loc N.st) ?_
  rintro v σ H Q ⟨env, S, al, w, re, rs, rw_, h⟩
  have h' : Runs (Y.lay X.K X.w) al.length H al (fun H' al' e σ' => RelE (Y.lay X.K X.w) H' al' e σ') (if i < env.length then .ok (env.set i (some w)) S else .bad) Q (AtX Z σ) := h
  split at h'
  · exact h'.here (Nat.le_refl _) rs (re.set rw_)
  · exact h'.elim
def notSlice : Expr → Bool
  | .Slice _ _ _ _ => false
  | _ => true
def rSet2 : V → V → V → Hp → (Hp → Prop) → Prop := fun o i v H Q => rSetL o i v H Q ∨ ∃ a H', o = .ref a ∧ L2.DPut H a i v H' ∧ Q H'
theorem set_two (hu : X.A.units + 1 < cLine) : PSet X rSet2 := by
  intro pins s σ H o i v ov iv u Q I ro ri rv h
  rcases h with h | ⟨a, H', rfl, g, q⟩
  · exact set_list pins s σ H o i v ov iv u Q I ro ri rv h
  · cases ro
    exact L2.d_setItem hu I g ri rv fun s' I' => ⟨H', I', q⟩
theorem key_val {L : Lay} {H : Hp} {al : List Addr} {k : D} {v : V} {q : L2.Key} (h : keyD k = some q) (r : RepD L H al k v) : v = L2.kV q := by
  cases k <;> simp only [keyD, reduceCtorEq, Option.some.injEq] at h <;> subst h
  · exact (RepD.rt r).int
  · exact (RepD.rt r).str
theorem gt_sub (G : Good Y X n c Z) {a i : Ex} {ea ei : Expr} (ha : PE X ea (tE Y X n Z a)) (hi : PE X ei (tE Y X n Z i)) (hs : notSlice ei = true) : PG X (.Subscript ea ei pos) (gT Y X n Z (.sub a i)) := by
  refine PG.imp (pg_sub ha hi (set_two (by have := G.room.un; omega)) (by cases ei <;> first | (intro _; rfl) | cases hs)) ?_
  rintro v σ H Q ⟨env, S, al, w, re, rs, rw_, h⟩
  have h' : Runs (Y.lay X.K X.w) al.length H al (fun H' al' e σ' => RelE (Y.lay X.K X.w) H' al' e σ') ((evE Y.T (callD Y.T n) a env S).bind fun o S1 => (evE Y.T (callD Y.T n) i env S1).bind fun k S2 => match (generalizing := false) o, k, w with
    | .loc n, .d k, .d x => (match (generalizing := false) S2[n]? with
      | some (.lst xs) => (match (generalizing := false) k with
        | .int j => (match ixN xs.length j with
          | some q => .ok env (S2.set n (.lst (xs.set q x)))
          | none => .bad)
        | _ => .bad)
      | some (.dic ks vs) => if isKey k = true ∧ ks.length < lim then .ok env (S2.set n (.dic (putD ks vs k x).1 (putD ks vs k x).2)) else .bad
      | _ => .bad)
    | _, _, _ => .bad) Q (AtX Z σ) := h
  refine ⟨env, S, al, re, rs, h'.bind fun o S1 u H1 al1 _ st rs1 ro h1 => ⟨env, S1, al1, re.step st (Nat.le_refl _), rs1, h1.bind fun k S2 kv H2 al2 _ st2 rs2 rk h2 => ?_⟩⟩
  cases o with
  | d _ => exact h2.elim
  | loc q =>
    cases k with
    | loc _ => exact h2.elim
    | d kd =>
        cases w with
        | loc _ => exact h2.elim
        | d x =>
          simp only at h2
          cases e1 : S2[q]? with
          | none => rw [e1] at h2; exact h2.elim
          | some so =>
            rw [e1] at h2
            cases so with
            | dic ks vs =>
              simp only at h2
              split at h2
              case isFalse => exact h2.elim
              rename_i hk
              obtain ⟨p, ep, rfl⟩ := ro.step st2 (Nat.le_refl _)
              obtain ⟨kvs, hp, dr, rv⟩ := rs2.obj q p _ ep e1
              obtain ⟨qk, hq⟩ := key_some hk.1
              have rx := (rw_.step st (Nat.le_refl _)).step st2 (Nat.le_refl _)
              have hm : p ∈ al2 := List.mem_of_getElem? ep
              have hlen : kvs.length < sizeLine := by
                have : ks.length = kvs.length := by
                  have := congrArg List.length dr
                  simpa using this
                rw [← this]
                exact Nat.lt_of_lt_of_le hk.2 lim_line
              have kk : ∀ b u, b ≠ p → H2 b = some u → upd H2 p (.dK (L2.putK kvs qk v)) b = some u := fun b u hb e => by rw [upd_ne hb]; exact e
              have kd : ∀ b o, H2 b = some o → b ∉ al2 → upd H2 p (.dK (L2.putK kvs qk v)) b = some o ∧ b ∉ al2 := fun b o e mm => ⟨kk b o (fun z => mm (z ▸ hm)) e, mm⟩
              have sw : Step al2.length H2 al2 (upd H2 p (.dK (L2.putK kvs qk v))) al2 := Step.write (Nat.le_refl _) hm kk
              obtain ⟨d1, d2⟩ := dic_put hq rx dr rv
              refine .inr ⟨p, _, rfl, by rw [key_val hq rk]; exact L2.DPut.k hp hlen, ?_⟩
              refine h2 σ _ al2 sw (rs2.write ep kk ⟨_, upd_same, d1, d2.stay kd⟩) ?_
              exact ((re.step st (Nat.le_refl _)).step st2 (Nat.le_refl _)).step sw (Nat.le_refl _)
            | lst xs =>
              simp only at h2
              cases kd with
              | int j =>
               simp only at h2
               cases e2 : ixN xs.length j with
               | none => rw [e2] at h2; exact h2.elim
               | some t =>
                rw [e2] at h2
                obtain ⟨p, ep, rfl⟩ := ro.step st2 (Nat.le_refl _)
                obtain ⟨vs, hp, rv⟩ := rs2.obj q p _ ep e1
                have rx := (rw_.step st (Nat.le_refl _)).step st2 (Nat.le_refl _)
                have hm : p ∈ al2 := List.mem_of_getElem? ep
                have kk : ∀ b u, b ≠ p → H2 b = some u → upd H2 p (.lst (vs.set t v)) b = some u := fun b u hb e => by rw [upd_ne hb]; exact e
                have kd : ∀ b o, H2 b = some o → b ∉ al2 → upd H2 p (.lst (vs.set t v)) b = some o ∧ b ∉ al2 := fun b o e mm => ⟨kk b o (fun z => mm (z ▸ hm)) e, mm⟩
                have sw : Step al2.length H2 al2 (upd H2 p (.lst (vs.set t v))) al2 := Step.write (Nat.le_refl _) hm kk
                refine .inl ⟨p, vs, j, t, rfl, (RepD.rt rk).int, hp, by rw [← rv.length]; exact e2, ?_⟩
                refine h2 σ _ al2 sw (rs2.write ep kk ⟨_, upd_same, (rv.set t rx).stay kd⟩) ?_
                exact ((re.step st (Nat.le_refl _)).step st2 (Nat.le_refl _)).step sw (Nat.le_refl _)
              | _ => exact h2.elim
            | _ => exact h2.elim
theorem gts_nil : PGs X [] (gTs Y X n Z []) := by
  refine PGs.imp pgs_nil ?_
  rintro vs σ H Q ⟨env, S, al, ds, re, rs, rd, h⟩
  cases ds with
  | nil => exact ⟨by simpa only [RepDs] using rd, Runs.here (Rq := fun H' al' e σ' => RelE (Y.lay X.K X.w) H' al' e σ') (show Runs (Y.lay X.K X.w) _ H al _ (.ok env S) Q _ from h) (Nat.le_refl _) rs re⟩
  | cons _ _ => exact h.elim
theorem noex_bind {α β : Type} {r : R α} {f : α → Store → R β} {S : Store} : (r.bind f).noex = r.noex.bind fun a S => (f a S).noex := by
  cases r <;> rfl
theorem gts_cons {t : Tg} {ts : List Tg} {e : Expr} {es : List Expr} (h1 : PG X e (gT Y X n Z t)) (h2 : PGs X es (gTs Y X n Z ts)) (hs : notStar e = true) : PGs X (e :: es) (gTs Y X n Z (t :: ts)) := by
  refine PGs.imp (pgs_cons h1 h2 (by rw [asg_each hs]; rfl)) ?_
  rintro vs σ H Q ⟨env, S, al, ds, re, rs, rd, h⟩
  cases ds with
  | nil => exact h.elim
  | cons d ds =>
    simp only [RepDs] at rd
    obtain ⟨v, us, rfl, r1, r2⟩ := rd
    have h' : Runs (Y.lay X.K X.w) al.length H al (fun H' al' e σ' => RelE (Y.lay X.K X.w) H' al' e σ') ((evTg Y.T (callD Y.T n) t (.d d) env S).noex.bind fun e S1 => (evTgs Y.T (callD Y.T n) ts ds e S1).noex) Q fun _ _ _ => False := by
      rw [← noex_bind (S := S)]; exact h
    refine ⟨v, us, rfl, env, S, al, .d d, re, rs, r1, Runs.noex (E := fun _ _ _ => False) ?_ _⟩
    exact h'.bind fun e S1 σ1 H1 al1 _ st rs1 r h1 => ⟨e, S1, al1, ds, r, rs1, r2.stay st.keep, h1⟩
theorem z_asg {e : Ex} {t : Tg} {ea et : Expr} (he : PE X ea (tE Y X n Z e)) (ht : PG X et (gT Y X n Z t)) (hs : swapsWithSole [et] ea pos.line X.env = pure false) (hw : swappedStores [et] ea X.env = pure none) (h1 : notStar et = true) : PS X (.Assign [et] ea pos) (tS Y X n Z (.asg t e)) := by
  refine PS.imp (ps_asg he ht hs hw (by rw [asg_each h1]; rfl)) ?_
  rintro D σ H ⟨m, env, S, al, hm, re, rs, h⟩
  have h' : RunF (Y.lay X.K X.w) m H al D Z (R.bindX env ((evE Y.T (callD Y.T n) e env S).bind fun w S1 => evTg Y.T (callD Y.T n) t w env S1) fun e S2 => .ok (.nx e) S2) := h
  have hr := RunF.bindX (Rp := fun H' al' e σ' => RelE (Y.lay X.K X.w) H' al' e σ') (Q := D.nx) h' re hm (by
    rintro e' S1 σ' H1 al1 - st rs1 r h1
    exact RunF.here h1 (Nat.le_trans hm st.le') rs1 _ r)
  exact ⟨env, S, al, re, rs, Runs.bind (Rp := RepW (Y.lay X.K X.w)) hr fun w S1 v H1 al1 _ st rs1 rw_ h1 => ⟨env, S1, al1, w, re.step st (Nat.le_refl _), rs1, rw_, h1⟩⟩
theorem pg_or {e : Expr} {t1 t2 : TG} (h1 : PG X e t1) (h2 : PG X e t2) : PG X e (fun v σ H Q => t1 v σ H Q ∨ t2 v σ H Q) :=
  ⟨fun pins s σ H v u Q I r h => h.elim (h1.run pins s σ H v u Q I r) (h2.run pins s σ H v u Q I r)⟩
theorem z_unp (G : Good Y X n c Z) {e : Ex} {ts : List Tg} {ea : Expr} {es : List Expr} {k : Nat} {pt : Pos} (he : PE X ea (tE Y X n Z e)) (ht : PGs X es (gTs Y X n Z ts)) (hs : swapsWithSole [.Tuple es k pt] ea pos.line X.env = pure false) (hw : swappedStores [.Tuple es k pt] ea X.env = pure none) (h1 : es.all notStar = true) (hl : ts.length = es.length) :
    PS X (.Assign [.Tuple es k pt] ea pos) (tS Y X n Z (.unp ts e)) := by
  obtain ⟨a1, a2⟩ := asg_len (env := X.env) h1
  refine PS.imp (ps_asg he (pg_or (pg_tup G.calm ht a1 a2) (pg_lst G.calm ht a1 a2)) hs hw (by rw [asg_each rfl]; rfl)) ?_
  rintro D σ H ⟨m, env, S, al, hm, re, rs, h⟩
  refine ⟨env, S, al, re, rs, RunF.bindX (Rp := RepW (Y.lay X.K X.w)) h re hm fun w S1 v H1 al1 _ st rs1 rw_ h1 => ?_⟩
  cases w with
  | loc _ => exact h1.elim
  | d x =>
    cases x with
    | tup ds =>
      have re1 := re.step st (Nat.le_refl _)
      obtain ⟨a, vs, rfl, hq, r⟩ := (RepD.rt rw_).tup
      have h2 : RunF (Y.lay X.K X.w) m H1 al1 D Z (R.bindX env (evTgs Y.T (callD Y.T n) ts ds env S1).noex fun e S2 => .ok (.nx e) S2) := h1
      have hlen : ds.length = ts.length := by
        have key : ∀ {ts : List Tg} {ds : List Ev.D} {env : Env} {S : Store}, (evTgs Y.T (callD Y.T n) ts ds env S).noex ≠ .bad → ds.length = ts.length := by
          intro ts
          induction ts with
          | nil => intro ds env S h; cases ds with
            | nil => rfl
            | cons _ _ => exact absurd rfl h
          | cons t ts ih => intro ds env S h; cases ds with
            | nil => exact absurd rfl h
            | cons d ds =>
              have e : (evTgs Y.T (callD Y.T n) (t :: ts) (d :: ds) env S).noex = (evTg Y.T (callD Y.T n) t (.d d) env S).noex.bind fun e S1 => (evTgs Y.T (callD Y.T n) ts ds e S1).noex := noex_bind (S := S)
              rw [e] at h
              cases q : evTg Y.T (callD Y.T n) t (.d d) env S with
              | bad => rw [q] at h; exact absurd rfl h
              | ex _ _ _ => rw [q] at h; exact absurd rfl h
              | ok e' S' =>
                rw [q] at h
                rw [List.length_cons, List.length_cons, ih h]
        refine key (env := env) (S := S1) fun z => ?_
        rw [z] at h2; exact h2
      refine .inl ⟨a, vs, rfl, hq, by rw [← r.length, hlen, hl], env, S1, al1, ds, re1, rs1, r, ?_⟩
      refine Runs.noex (E := AtX Z σ) ?_ _
      have e : (evTgs Y.T (callD Y.T n) ts ds env S1).noex.noex = (evTgs Y.T (callD Y.T n) ts ds env S1).noex := by
        cases evTgs Y.T (callD Y.T n) ts ds env S1 <;> rfl
      rw [e]
      exact RunF.bindX (Rp := fun H' al' e σ' => RelE (Y.lay X.K X.w) H' al' e σ') (Q := D.nx) h2 re1 (Nat.le_trans hm st.le') (by
        rintro e' S2 σ' H2 al2 - st2 rs2 r h3
        exact RunF.here h3 (Nat.le_trans hm (Nat.le_trans st.le' st2.le')) rs2 _ r)
    | lst ds =>
      have re1 := re.step st (Nat.le_refl _)
      obtain ⟨a, vs, rfl, hq, r⟩ := (RepD.rt rw_).lst
      have h2 : RunF (Y.lay X.K X.w) m H1 al1 D Z (R.bindX env (evTgs Y.T (callD Y.T n) ts ds env S1).noex fun e S2 => .ok (.nx e) S2) := h1
      have hlen : ds.length = ts.length := by
        have key : ∀ {ts : List Tg} {ds : List Ev.D} {env : Env} {S : Store}, (evTgs Y.T (callD Y.T n) ts ds env S).noex ≠ .bad → ds.length = ts.length := by
          intro ts
          induction ts with
          | nil => intro ds env S h; cases ds with
            | nil => rfl
            | cons _ _ => exact absurd rfl h
          | cons t ts ih => intro ds env S h; cases ds with
            | nil => exact absurd rfl h
            | cons d ds =>
              have e : (evTgs Y.T (callD Y.T n) (t :: ts) (d :: ds) env S).noex = (evTg Y.T (callD Y.T n) t (.d d) env S).noex.bind fun e S1 => (evTgs Y.T (callD Y.T n) ts ds e S1).noex := noex_bind (S := S)
              rw [e] at h
              cases q : evTg Y.T (callD Y.T n) t (.d d) env S with
              | bad => rw [q] at h; exact absurd rfl h
              | ex _ _ _ => rw [q] at h; exact absurd rfl h
              | ok e' S' =>
                rw [q] at h
                rw [List.length_cons, List.length_cons, ih h]
        refine key (env := env) (S := S1) fun z => ?_
        rw [z] at h2; exact h2
      refine .inr ⟨a, vs, rfl, SqL.of hq, by rw [← r.length, hlen, hl], env, S1, al1, ds, re1, rs1, r, ?_⟩
      refine Runs.noex (E := AtX Z σ) ?_ _
      have e : (evTgs Y.T (callD Y.T n) ts ds env S1).noex.noex = (evTgs Y.T (callD Y.T n) ts ds env S1).noex := by
        cases evTgs Y.T (callD Y.T n) ts ds env S1 <;> rfl
      rw [e]
      exact RunF.bindX (Rp := fun H' al' e σ' => RelE (Y.lay X.K X.w) H' al' e σ') (Q := D.nx) h2 re1 (Nat.le_trans hm st.le') (by
        rintro e' S2 σ' H2 al2 - st2 rs2 r h3
        exact RunF.here h3 (Nat.le_trans hm (Nat.le_trans st.le' st2.le')) rs2 _ r)
    | _ => exact h1.elim
theorem z_unn (G : Good Y X n c Z) {e : Ex} {ts : List Tn} {ea : Expr} {es : List Expr} {k : Nat} {pt : Pos} (he : PE X ea (tE Y X n Z e)) (ht : chkN c (.tup ts) (.Tuple es k pt) = true) (hs : swapsWithSole [.Tuple es k pt] ea pos.line X.env = pure false) (hw : swappedStores [.Tuple es k pt] ea X.env = pure none) :
    PS X (.Assign [.Tuple es k pt] ea pos) (tS Y X n Z (.unn ts e)) := by
  refine PS.imp (ps_asg he (g_name G ht) hs hw (by rw [asg_each rfl]; rfl)) ?_
  rintro D σ H ⟨m, env, S, al, hm, re, rs, h⟩
  refine ⟨env, S, al, re, rs, RunF.bindX (Rp := RepW (Y.lay X.K X.w)) h re hm fun w S1 v H1 al1 _ st rs1 rw_ h1 => ?_⟩
  cases w with
  | loc _ => exact h1.elim
  | d x =>
    have re1 := re.step st (Nat.le_refl _)
    have h2 : RunF (Y.lay X.K X.w) m H1 al1 D Z (R.bindX env (R.of (bindN (.tup ts) x env) S1) fun e S2 => .ok (.nx e) S2) := h1
    cases q : bindN (.tup ts) x env with
    | none => rw [q] at h2; exact h2.elim
    | some e' =>
      rw [q] at h2
      refine ⟨env, S1, al1, x, e', re1, rs1, rw_, q, fun σ' r' hh => ?_⟩
      exact RunF.here h2 (Nat.le_trans hm st.le') rs1 _ r'
end
end Ev
end
section
/-! EvDE: statements (2): pairs, fields, blocks, loops. Own work. -/
set_option linter.all false
set_option autoImplicit false
set_option maxRecDepth 100000
set_option maxHeartbeats 1000000
namespace Ev
open PySem PySem.Spec PyProof.Rows L2
section
variable {Y : Txt} {X : Cx} {n : Nat} {c : Sco} {Z : WX} {pos : Pos}
/-! ### a, b = x, y -/
theorem par_read {is : List Nat} {es : Exs} {D : Ends} {σ : L2.St} {H : Hp} {K2 : List V → Hp → Prop} (h : tS Y X n Z (.par is es) D σ H)
    (k : ∀ ws vs (e : Env × Env) H1 al1, RelE (Y.lay X.K X.w) H1 al1 e.1 σ → RepWs (Y.lay X.K X.w) H1 al1 ws vs → setPar is ws e.1 = some e.2 → (∀ σ', RelE (Y.lay X.K X.w) H1 al1 e.2 σ' → D.nx σ' H1) → K2 vs H1) : tEs Y X n Z es σ H K2 := by
  obtain ⟨m, env, S, al, hm, re, rs, h⟩ := h
  have h' : RunF (Y.lay X.K X.w) m H al D Z (R.bindX env ((evEs Y.T (callD Y.T n) es env S).bind fun ws S1 => R.of (setPar is ws env) S1) fun e S2 => .ok (.nx e) S2) := h
  have hr := RunF.bindX (Rp := fun H1 al1 (e : Env) (vs : List V) => ∃ ws, RepWs (Y.lay X.K X.w) H1 al1 ws vs ∧ setPar is ws env = some e ∧ RelE (Y.lay X.K X.w) H1 al1 env σ) (Q := K2) h' re hm (by
    rintro e' S1 vs H1 al1 - st rs1 ⟨ws, rws, es', re1⟩ h1
    exact k ws vs (env, e') H1 al1 re1 rws es' (RunF.here h1 (Nat.le_trans hm st.le') rs1))
  refine ⟨env, S, al, re, rs, Runs.bind (Rp := RepWs (Y.lay X.K X.w)) hr fun ws S1 vs H1 al1 _ st rs1 rws h1 => ?_⟩
  obtain ⟨e, ee, h2⟩ := h1.of_of
  exact h2.here (Nat.le_refl _) rs1 ⟨ws, rws, ee, re.step st (Nat.le_refl _)⟩
theorem z_par2 (G : Good Y X n c Z) {i j : Nat} {x y : Str} {px py pt : Pos} {kt k2 : Nat} {pt2 : Pos} {a b : Expr} {es : Exs} (hi : c.N[i]? = some x) (hj : c.N[j]? = some y) (hij : i ≠ j) (hx : c.sc.names.lookup x = some .local) (hy : c.sc.names.lookup y = some .local) (ha : PA X [a, b] (tEs Y X n Z es))
    (hw : swappedStores [.Tuple [.Name x px, .Name y py] kt pt] (.Tuple [a, b] k2 pt2) X.env = pure (some [x, y])) : PS X (.Assign [.Tuple [.Name x px, .Name y py] kt pt] (.Tuple [a, b] k2 pt2) pos) (tS Y X n Z (.par [i, j] es)) := by
  refine PS.imp (ps_par G.calm G.nd (by rw [G.names]; exact hi) (by rw [G.names]; exact hj) hij (by rw [G.sc]; exact hx) (by rw [G.sc]; exact hy) ha hw) fun D σ H h => ?_
  refine par_read h ?_
  rintro ws vs ⟨env, e⟩ H1 al1 re rws es' q
  cases ws with
  | nil => simp [setPar] at es'
  | cons w1 ws =>
    cases ws with
    | nil => simp [setPar] at es'
    | cons w2 ws =>
      cases ws with
      | cons _ _ => simp [setPar] at es'
      | nil =>
        obtain ⟨v1, us, rfl, r1, v2, us2, rfl, r2, rfl⟩ := rws
        simp only [setPar, Option.ite_none_right_eq_some, Option.some.injEq] at es'
        obtain ⟨h1, h2, rfl⟩ := es'
        exact ⟨v1, v2, rfl, q _ ((re.set r1).set r2)⟩
theorem z_par3 (G : Good Y X n c Z) {i j l : Nat} {x y z : Str} {px py pz pt : Pos} {kt k2 : Nat} {pt2 : Pos} {a b d : Expr} {es : Exs} (hi : c.N[i]? = some x) (hj : c.N[j]? = some y) (hl : c.N[l]? = some z) (hij : i ≠ j) (hil : i ≠ l) (hjl : j ≠ l) (hx : c.sc.names.lookup x = some .local)
    (hy : c.sc.names.lookup y = some .local) (hz : c.sc.names.lookup z = some .local) (ha : PA X [a, b, d] (tEs Y X n Z es)) (hw : swappedStores [.Tuple [.Name x px, .Name y py, .Name z pz] kt pt] (.Tuple [a, b, d] k2 pt2) X.env = pure (some [x, y, z])) :
    PS X (.Assign [.Tuple [.Name x px, .Name y py, .Name z pz] kt pt] (.Tuple [a, b, d] k2 pt2) pos) (tS Y X n Z (.par [i, j, l] es)) := by
  refine PS.imp (ps_par3 G.calm G.nd (by rw [G.names]; exact hi) (by rw [G.names]; exact hj) (by rw [G.names]; exact hl) hij hil hjl (by rw [G.sc]; exact hx) (by rw [G.sc]; exact hy) (by rw [G.sc]; exact hz) ha hw) fun D σ H h => ?_
  refine par_read h ?_
  rintro ws vs ⟨env, e⟩ H1 al1 re rws es' q
  cases ws with
  | nil => simp [setPar] at es'
  | cons w1 ws =>
    cases ws with
    | nil => simp [setPar] at es'
    | cons w2 ws =>
      cases ws with
      | nil => simp [setPar] at es'
      | cons w3 ws =>
        cases ws with
        | cons _ _ => simp [setPar] at es'
        | nil =>
          obtain ⟨v1, us, rfl, r1, v2, us2, rfl, r2, v3, us3, rfl, r3, rfl⟩ := rws
          simp only [setPar, Option.ite_none_right_eq_some, Option.some.injEq] at es'
          obtain ⟨h1, h2, h3, rfl⟩ := es'
          exact ⟨v1, v2, v3, rfl, q _ (((re.set r1).set r2).set r3)⟩
/-- names that get values one by one -/
def gWs (Y : Txt) (X : Cx) (is : List Nat) : TGs := fun vs σ H Q => ∃ env al ws env', RelE (Y.lay X.K X.w) H al env σ ∧ RepWs (Y.lay X.K X.w) H al ws vs ∧ setPar is ws env = some env' ∧ ∀ σ', RelE (Y.lay X.K X.w) H al env' σ' → Q σ' H
def chkWs (c : Sco) : List Nat → List Expr → Bool
  | [], [] => true
  | i :: is, .Name x _ :: es => decide (c.N[i]? = some x) && locB c x && chkWs c is es
  | _, _ => false
theorem chkWs_star {c : Sco} : ∀ {is : List Nat} {es : List Expr}, chkWs c is es = true → es.all notStar = true ∧ is.length = es.length
  | [], [], _ => ⟨rfl, rfl⟩
  | [], _ :: _, h => by simp [chkWs] at h
  | i :: is, [], h => by simp [chkWs] at h
  | i :: is, e :: es, h => by
    cases e with
    | Name x p =>
      simp only [chkWs, Bool.and_eq_true] at h
      obtain ⟨h1, h2⟩ := chkWs_star h.2
      exact ⟨by rw [List.all_cons, h1]; rfl, by rw [List.length_cons, List.length_cons, h2]⟩
    | _ => simp [chkWs] at h
theorem g_ws (G : Good Y X n c Z) : ∀ {is : List Nat} {es : List Expr}, chkWs c is es = true → PGs X es (gWs Y X is)
  | [], [], _ => by
    refine PGs.imp pgs_nil ?_
    rintro vs σ H Q ⟨env, al, ws, env', re, rws, e, q⟩
    cases ws with
    | nil =>
      simp only [setPar, Option.some.injEq] at e
      subst e
      exact ⟨rws, q σ re⟩
    | cons _ _ => simp [setPar] at e
  | [], _ :: _, h => by simp [chkWs] at h
  | i :: is, [], h => by simp [chkWs] at h
  | i :: is, e :: es, h => by
    cases e with
    | Name x p =>
      simp only [chkWs, Bool.and_eq_true, decide_eq_true_eq] at h
      have N := nms_of G h.1.1 h.1.2
      refine PGs.imp (pgs_cons (pg_name G.nd N.at_ N.loc N.st) (g_ws G h.2) (by rw [asg_each rfl]; rfl)) ?_
      rintro vs σ H Q ⟨env, al, ws, env', re, rws, e, q⟩
      cases ws with
      | nil => simp [setPar] at e
      | cons w ws =>
        obtain ⟨v, us, rfl, r1, r2⟩ := rws
        simp only [setPar, Option.ite_none_right_eq_some] at e
        exact ⟨v, us, rfl, env.set i (some w), al, ws, env', re.set r1, r2, e.2, q⟩
    | _ => simp [chkWs] at h
theorem setPar_len : ∀ {is : List Nat} {ws : List W} {env e : Env}, setPar is ws env = some e → ws.length = is.length
  | [], [], _, _, _ => rfl
  | [], _ :: _, _, _, h => by simp [setPar] at h
  | _ :: _, [], _, _, h => by simp [setPar] at h
  | i :: is, w :: ws, env, e, h => by
    simp only [setPar, Option.ite_none_right_eq_some] at h
    rw [List.length_cons, List.length_cons, setPar_len h.2]
theorem z_pat (G : Good Y X n c Z) {is : List Nat} {ts as : List Expr} {kt k2 : Nat} {pt pt2 : Pos} {es : Exs} (ht : chkWs c is ts = true) (ha : PA X as (tEs Y X n Z es)) (hl : is.length ≤ 4000) (hw : swappedStores [.Tuple ts kt pt] (.Tuple as k2 pt2) X.env = pure none) :
    PS X (.Assign [.Tuple ts kt pt] (.Tuple as k2 pt2) pos) (tS Y X n Z (.pat is es)) := by
  obtain ⟨st1, st2⟩ := chkWs_star ht
  obtain ⟨a1, a2⟩ := asg_len (env := X.env) st1
  refine PS.imp (ps_asg (pe_tup ha) (pg_tup G.calm (g_ws G ht) a1 a2) rfl hw (by rw [asg_each rfl]; rfl)) ?_
  rintro D σ H ⟨m, env, S, al, hm, re, rs, h⟩
  have h' : RunF (Y.lay X.K X.w) m H al D Z (R.bindX env ((evEs Y.T (callD Y.T n) es env S).bind fun ws S1 => R.of (setPar is ws env) S1) fun e S2 => .ok (.nx e) S2) := h
  have hr := RunF.bindX (Rp := fun H1 al1 (e : Env) (vs : List V) => ∃ ws, RepWs (Y.lay X.K X.w) H1 al1 ws vs ∧ setPar is ws env = some e ∧ RelE (Y.lay X.K X.w) H1 al1 env σ) (Q := fun vs H1 => vs.length ≤ sizeLine ∧ ∀ p, H1 p = none → gTup X.K ts.length (gWs Y X is) (.ref p) σ (upd H1 p (.tup vs)) D.nx) h' re hm (by
    rintro e' S1 vs H1 al1 - st rs1 ⟨ws, rws, es', re1⟩ h1
    have wl := rws.length
    have sl := setPar_len es'
    refine ⟨lim_of (by omega), fun p hp => ?_⟩
    have kk := keep_upd (o := .tup vs) hp
    have st2 : Step al1.length H1 al1 (upd H1 p (.tup vs)) al1 := Step.kept (Nat.le_refl _) kk
    refine ⟨p, vs, rfl, .inl (.inl upd_same), by omega, env, al1, ws, e', re1.step st2 (Nat.le_refl _), rws.step st2 (Nat.le_refl _), es', fun σ' r' => ?_⟩
    exact h1 (upd H1 p (.tup vs)) al1 (st2.mono (Nat.le_trans hm st.le')) (rs1.kept kk) σ' r')
  refine ⟨env, S, al, re, rs, Runs.bind (Rp := RepWs (Y.lay X.K X.w)) hr fun ws S1 vs H1 al1 _ st rs1 rws h1 => ?_⟩
  obtain ⟨e, ee, h2⟩ := h1.of_of
  exact h2.here (Nat.le_refl _) rs1 ⟨ws, rws, ee, re.step st (Nat.le_refl _)⟩
/-! ### what a pair on the left does -/
def swNames (sc : Scope) (ts : List Expr) : List Str := ts.filterMap fun
      | .Name id pos => if sc.names.lookup id == some .local && pos.line == (ts.head?.map (·.pos.line)).getD 0 then some id else none
      | _ => none
def swT (sc : Scope) (ts vs : List Expr) : Option (Option (List Str)) :=
  if (!(ts.length == 2 || ts.length == 3) || vs.length != ts.length) = true then some none else
    if !vs.all notStar then some none else
    if ((swNames sc ts).length != ts.length || (swNames sc ts).eraseDups.length != (swNames sc ts).length) = true then some none else
    if vs.all (foldedForSure 8) then some none else if vs.all (constantsAlone 8) then none else some (some (swNames sc ts))
def starX : Expr → Bool
  | .Starred .. => true
  | _ => false
theorem any_star {vs : List Expr} : vs.any starX = !vs.all notStar := by
  induction vs with
  | nil => rfl
  | cons v vs ih =>
    rw [List.any_cons, List.all_cons, ih]
    cases v <;> simp [notStar, starX]
theorem swT_ok {sc : Scope} {ts vs : List Expr} {r : Option (List Str)} {env : PySem.Env} {k k2 : Nat} {p p2 : Pos} (he : env.scope = sc) (hk : sc.kind = .function) (h : swT sc ts vs = some r) : swappedStores [.Tuple ts k p] (.Tuple vs k2 p2) env = pure r := by
  subst he
  have hb : (env.blockKind != .function) = false := by
    unfold Env.blockKind
    rw [hk]; rfl
  unfold swappedStores
  simp only [hb, Bool.or_false]
  unfold swT at h
  split at h
  · rename_i c1
    cases h
    rw [if_pos c1]
  · rename_i c1
    rw [if_neg c1]
    show (if (vs.any starX) = true then _ else _) = _
    rw [any_star]
    split at h
    · rename_i c2
      cases h
      rw [if_pos c2]
    · rename_i c2
      rw [if_neg c2]
      show (if ((swNames env.scope ts).length != ts.length || (swNames env.scope ts).eraseDups.length != (swNames env.scope ts).length) = true then _ else _) = _
      split at h
      · rename_i c3
        cases h
        rw [if_pos c3]
      · rename_i c3
        rw [if_neg c3]
        split at h
        · rename_i c4
          cases h
          rw [if_pos c4]
        · rename_i c4
          rw [if_neg c4]
          split at h
          · cases h
          · rename_i c5
            cases h
            rw [if_neg c5]
            rfl
def isTup : Expr → Bool
  | .Tuple _ _ _ => true
  | _ => false
def isLstX : Expr → Bool
  | .List _ _ => true
  | _ => false
theorem sw_nt {t v : Expr} {env : PySem.Env} (h : isTup v = false) : swappedStores [t] v env = pure none := by
  cases v <;> first | (cases h; done) | (cases t <;> rfl)
theorem sw_nn {t v : Expr} {env : PySem.Env} (h : isTup t = false) (h2 : isLstX t = false) : swappedStores [t] v env = pure none := by
  cases t <;> first | (cases h; done) | (cases h2; done) | rfl

/-! ### fields -/
theorem put_rep {nm : Nat → Str} {L : Lay} {H : Hp} {al : List Addr} {f : Nat} (inj : ∀ g, nm f = nm g → f = g) {x : Ev.D} {v : V} (rx : RepD L H al x v) : ∀ {fs : List (Nat × Ev.D)} {fvs : List (Str × V)}, fvs.map (·.1) = fs.map (fun p => nm p.1) → RepDs L H al (fs.map (·.2)) (fvs.map (·.2)) →
    (putF (nm f) v fvs).map (·.1) = (setF fs f x).map (fun p => nm p.1) ∧ RepDs L H al ((setF fs f x).map (·.2)) ((putF (nm f) v fvs).map (·.2))
  | [], [], _, _ => ⟨rfl, .one rx⟩
  | [], _ :: _, e, _ => by simp at e
  | _ :: _, [], e, _ => by simp at e
  | (g, y) :: fs, (a, w) :: fvs, e, r => by
    simp only [List.map_cons, List.cons.injEq] at e
    simp only [List.map_cons, RepDs] at r
    obtain ⟨v', us, e2, r1, r2⟩ := r
    simp only [List.cons.injEq] at e2
    obtain ⟨rfl, rfl⟩ := e2
    by_cases hg : g = f
    · subst hg
      have ha : a = nm g := e.1
      subst ha
      simp only [putF, setF, if_true]
      exact ⟨by simp [e.2], .cons rx r2⟩
    · have ha : a ≠ nm f := fun z => hg (inj g (z.symm.trans e.1)).symm
      simp only [putF, setF, if_neg hg, if_neg ha]
      obtain ⟨h1, h2⟩ := put_rep inj rx e.2 r2
      exact ⟨by simp [h1, e.1], .cons r1 h2⟩
theorem z_satt (G : Good Y X n c Z) {a e : Ex} {f : Nat} {nm : Str} {ea ev : Expr} {pos' : Pos} (ha : PE X ea (tE Y X n Z a)) (hv : PE X ev (tE Y X n Z e)) (hf : Y.an[f]? = some nm) (hc : noComp ev = true) : PS X (.Assign [.Attribute ea nm pos'] ev pos) (tS Y X n Z (.satt a f e)) := by
  have st' := stat_of G.stat
  have en : nm = Y.an.getD f "" := by rw [List.getD_eq_getElem?_getD, hf]; rfl
  refine PS.imp (ps_fld ha hv (sw_false hc)) ?_
  rintro D σ H ⟨m, env, S, al, hm, re, rs, h⟩
  have h' : RunF (Y.lay X.K X.w) m H al D Z (R.bindX env ((evE Y.T (callD Y.T n) e env S).bind fun w S1 => (evE Y.T (callD Y.T n) a env S1).bind fun o S2 => match o, w with
    | .loc n, .d x => (match S2[n]? with
      | some (.ins c fs) => if sattOk Y.T c f fs then .ok env (S2.set n (.ins c (setF fs f x))) else .bad
      | _ => .bad)
    | _, _ => .bad) fun e S2 => .ok (.nx e) S2) := h
  have hr := RunF.bindX (Rp := fun H1 al1 (e : Env) (σ' : L2.St) => RelE (Y.lay X.K X.w) H1 al1 e σ') (Q := D.nx) h' re hm (by
    rintro e' S1 σ' H1 al1 - st rs1 r h1
    exact RunF.here h1 (Nat.le_trans hm st.le') rs1 _ r)
  refine ⟨env, S, al, re, rs, Runs.bind (Rp := RepW (Y.lay X.K X.w)) hr fun w S1 v H1 al1 _ st rs1 rw_ h1 => ⟨env, S1, al1, re.step st (Nat.le_refl _), rs1, Runs.bind (Rp := RepW (Y.lay X.K X.w)) h1 fun o S2 u H2 al2 _ st2 rs2 ro h2 => ?_⟩⟩
  cases o with
  | d _ => exact h2.elim
  | loc q =>
    cases w with
    | loc _ => exact h2.elim
    | d x =>
      simp only at h2
      cases e1 : S2[q]? with
      | none => rw [e1] at h2; exact h2.elim
      | some so =>
        rw [e1] at h2
        cases so with
        | ins k fs =>
          simp only at h2
          split at h2
          · rename_i ok
            unfold sattOk at ok
            cases ek : Y.T.cls[k]? with
            | none => rw [ek] at ok; cases ok
            | some cl =>
              rw [ek] at ok
              simp only [Bool.and_eq_true, decide_eq_true_eq] at ok
              have hfm : f ∈ cl.flds := List.contains_iff_mem.mp ok.1
              have km := List.mem_of_getElem? ek
              obtain ⟨xn, CF⟩ := cls_get G ek
              obtain ⟨p, ep, rfl⟩ := ro
              obtain ⟨dx, fvs, hp, hn, hr2⟩ := rs2.obj q p _ ep e1
              have inj : ∀ g, (Y.lay X.K X.w).nm f = (Y.lay X.K X.w).nm g → f = g := fun g z => nm_inj st' (st'.fl cl km f hfm) z
              have rx : RepD (Y.lay X.K X.w) H2 al2 x v := RepD.stay st2.keep _ _ rw_
              obtain ⟨p1, p2⟩ := put_rep inj rx hn hr2
              refine ⟨p, _, dx, fvs, rfl, hp, CF.cls, by rw [en]; exact CF.flds f hfm, ?_, ?_⟩
              · have : fvs.length = fs.length := by simpa using congrArg List.length hn
                rw [this]; exact ok.2
              · rw [en]
                have hmm : p ∈ al2 := List.mem_of_getElem? ep
                have kk : ∀ b u, b ≠ p → H2 b = some u → upd H2 p (.ins ((Y.lay X.K X.w).cls k) dx (putF (Y.an.getD f "") v fvs)) b = some u := fun b u hb e => by rw [upd_ne hb]; exact e
                have kd : ∀ b o, H2 b = some o → b ∉ al2 → upd H2 p (.ins ((Y.lay X.K X.w).cls k) dx (putF (Y.an.getD f "") v fvs)) b = some o ∧ b ∉ al2 := fun b o e mm => ⟨kk b o (fun z => mm (z ▸ hmm)) e, mm⟩
                have sw : Step al2.length H2 al2 (upd H2 p (.ins ((Y.lay X.K X.w).cls k) dx (putF (Y.an.getD f "") v fvs))) al2 := Step.write (Nat.le_refl _) hmm kk
                refine h2 σ _ al2 sw (rs2.write ep kk ⟨dx, _, upd_same, p1, p2.stay kd⟩) ?_
                exact ((re.step st (Nat.le_refl _)).step st2 (Nat.le_refl _)).step sw (Nat.le_refl _)
          · exact h2.elim
        | _ => exact h2.elim

/-! ### name op= value -/
def rOpD (L : Lay) (f : Ev.D → Ev.D → Option Ev.D) : R2 := fun x y H Q => ∃ u v z S al, RepD L H al u x ∧ RepD L H al v y ∧ f u v = some z ∧ OpS L H S al z Q
theorem ip_of {L : Lay} {o : BOp} : PIp X (opA o) (rOpD L (binI o)) := by
  rintro pins s σ H x y v u Q I rx ry ⟨a, b, z, S, al, ra, rb, e, g⟩
  cases o <;> cases a <;> cases b <;> simp only [binI, Option.some.injEq, reduceCtorEq, Option.ite_none_right_eq_some] at e
  · subst e
    exact iop_add pins s σ H x y v u Q I rx ry ⟨_, _, (RepD.rt ra).int, (RepD.rt rb).int, g.int⟩
  · obtain ⟨hl, rfl⟩ := e
    refine iop_add_str pins s σ H x y v u Q I rx ry ⟨_, _, (RepD.rt ra).str, (RepD.rt rb).str, ?_, ?_⟩
    · rw [tx_len, tx_len]; exact Nat.le_trans hl lim_line
    · rw [tx_app]; exact g.str (by rw [List.length_append]; exact hl)
  · subst e
    exact iop_sub pins s σ H x y v u Q I rx ry ⟨_, _, (RepD.rt ra).int, (RepD.rt rb).int, g.int⟩
  · obtain ⟨hc, rfl⟩ := e
    exact iop_mul pins s σ H x y v u Q I rx ry ⟨_, _, (RepD.rt ra).int, (RepD.rt rb).int, hc, g.int⟩
  · obtain ⟨hc, rfl⟩ := e
    exact iop_fdiv pins s σ H x y v u Q I rx ry ⟨_, _, (RepD.rt ra).int, (RepD.rt rb).int, hc, g.int⟩
  · obtain ⟨hc, rfl⟩ := e
    exact iop_mod pins s σ H x y v u Q I rx ry ⟨_, _, (RepD.rt ra).int, (RepD.rt rb).int, hc, g.int⟩
theorem z_aug (G : Good Y X n c Z) {e : Ex} {ea : Expr} {i : Nat} {x : Str} {o : BOp} {pos' : Pos} (he : PE X ea (tE Y X n Z e)) (h1 : c.N[i]? = some x) (h2 : locB c x = true) : PS X (.AugAssign (.Name x pos') (opA o) ea pos) (tS Y X n Z (.aug i o e)) := by
  have N := nms_of G h1 h2
  refine PS.imp (ps_aug G.nd N.at_ N.loc he (ip_of (L := Y.lay X.K X.w)) N.st) ?_
  rintro D σ H ⟨m, env, S, al, hm, re, rs, h⟩
  cases es : slot env i with
  | none =>
    have h' : RunF (Y.lay X.K X.w) m H al D Z (R.bindX env (match slot env i with
      | none => .bad
      | some x => (evE Y.T (callD Y.T n) e env S).bind fun y S1 => match x, y with
        | .d u, .d v => (R.of (binI o u v) S1).bind fun z S2 => .ok (env.set i (some (.d z))) S2
        | _, _ => .bad : R Env) fun e S2 => .ok (.nx e) S2) := h
    rw [es] at h'
    exact h'.elim
  | some wx =>
    have h' : RunF (Y.lay X.K X.w) m H al D Z (R.bindX env (match slot env i with
      | none => .bad
      | some x => (evE Y.T (callD Y.T n) e env S).bind fun y S1 => match x, y with
        | .d u, .d v => (R.of (binI o u v) S1).bind fun z S2 => .ok (env.set i (some (.d z))) S2
        | _, _ => .bad : R Env) fun e S2 => .ok (.nx e) S2) := h
    rw [es] at h'
    have e2 : env[i]? = some (some wx) := by
      unfold slot at es
      cases q : env[i]? with
      | none => rw [q] at es; cases es
      | some o => rw [q] at es; simp only [Option.bind_some, id] at es; rw [es]
    obtain ⟨xv, ex, rx⟩ := re.at_ i wx e2
    refine ⟨xv, ex, ?_⟩
    have hr := RunF.bindX (Rp := fun H1 al1 (e : Env) (z : V) => ∃ d, e = env.set i (some (.d d)) ∧ RepD (Y.lay X.K X.w) H1 al1 d z) (Q := fun z H1 => D.nx (σ.set i (some z)) H1) h' re hm (by
      rintro e' S1 z H1 al1 - st rs1 ⟨d, rfl, rd⟩ h1
      exact RunF.here h1 (Nat.le_trans hm st.le') rs1 _ ((re.step st (Nat.le_refl _)).set (w := .d d) rd))
    refine ⟨env, S, al, re, rs, Runs.bind (Rp := RepW (Y.lay X.K X.w)) hr fun w S1 v H1 al1 _ st rs1 rw_ h1 => ?_⟩
    cases wx with
    | loc _ => exact h1.elim
    | d u =>
      cases w with
      | loc _ => exact h1.elim
      | d v' =>
        obtain ⟨z, ez, h3⟩ := Runs.of_bind (show Runs (Y.lay X.K X.w) al1.length H1 al1 _ ((R.of (binI o u v') S1).bind fun z S2 => R.ok (env.set i (some (.d z))) S2) _ _ from h1)
        refine ⟨u, v', z, S1, al1, RepD.stay st.keep _ _ rx, rw_, ez, rs1, fun H' v k r => ?_⟩
        exact h3 v H' al1 (Step.kept (Nat.le_refl _) k) (rs1.kept k) ⟨z, rfl, r⟩

/-! ### blocks -/
theorem b_nil : PSs X [] (tSs Y X n Z .nil) := PSs.imp pss_nil (by
  rintro D σ H ⟨m, env, S, al, hm, re, rs, h⟩
  exact RunF.here (fl := .nx env) h hm rs σ re)
theorem b_cons {s : Sm} {r : Sms} {st : Stmt} {sts : List Stmt} (h1 : PS X st (tS Y X n Z s)) (h2 : PSs X sts (tSs Y X n Z r)) : PSs X (st :: sts) (tSs Y X n Z (.cons s r)) := PSs.imp (pss_cons h1 h2) (by
  rintro D σ H ⟨m, env, S, al, hm, re, rs, h⟩
  refine ⟨m, env, S, al, hm, re, rs, ?_⟩
  have h' : RunF (Y.lay X.K X.w) m H al D Z ((evS Y.T (callD Y.T n) m s env S).bind fun fl S1 => match fl with
    | .nx e => evSs Y.T (callD Y.T n) m r e S1
    | .rt w => .ok (.rt w) S1
    | .bk e => .ok (.bk e) S1
    | .ct e => .ok (.ct e) S1
    | .ex c vs e => .ok (.ex c vs e) S1) := h
  cases q : evS Y.T (callD Y.T n) m s env S with
  | bad => rw [q] at h'; exact h'
  | ex _ _ _ => rw [q] at h'; exact h'
  | ok fl S1 =>
    rw [q, R.bind_ok] at h'
    intro H' al' st' rs'
    cases fl with
    | nx e => exact fun σ' r' => ⟨m, e, S1, al', st'.le', r', rs', RunF.on h' st'⟩
    | rt w => exact h' H' al' st' rs'
    | bk e => exact h' H' al' st' rs'
    | ct e => exact h' H' al' st' rs'
    | ex cc vs e => exact h' H' al' st' rs')
theorem b_frz {i : Nat} {r : Sms} {sts : List Stmt} (h1 : PSs X sts (tSs Y X n Z r)) : PSs X sts (tSs Y X n Z (.frz i r)) := PSs.imp h1 (by
  rintro D σ H ⟨m, env, S, al, hm, re, rs, h⟩
  have h' : RunF (Y.lay X.K X.w) m H al D Z (match slot env i with
    | some (.loc q) => if m ≤ q ∧ S.length = q + 1 ∧ (env.set i none).all (fun w => match w with | some (.loc k) => decide (k < q) | _ => true) then
        (match (S[q]?).bind (cold Y.T) with
        | some x => evSs Y.T (callD Y.T n) m r (env.set i (some (.d x))) (S.take q)
        | none => .bad) else .bad
    | _ => .bad) := h
  cases es : slot env i with
  | none => rw [es] at h'; exact h'.elim
  | some w =>
    cases w with
    | d _ => rw [es] at h'; exact h'.elim
    | loc q =>
      rw [es] at h'
      simp only at h'
      split at h'
      · rename_i hc
        obtain ⟨hq, hl, hall⟩ := hc
        cases e1 : (S[q]?).bind (cold Y.T) with
        | none => rw [e1] at h'; exact h'.elim
        | some x =>
          rw [e1] at h'
          simp only at h'
          obtain ⟨o, eo, ex⟩ := Option.bind_eq_some_iff.mp e1
          have e2 : env[i]? = some (some (.loc q)) := by
            unfold slot at es
            cases z : env[i]? with
            | none => rw [z] at es; cases es
            | some o => rw [z] at es; simp only [Option.bind_some, id] at es; rw [es]
          obtain ⟨v, ev, rv⟩ := re.at_ i _ e2
          obtain ⟨a, ea, rfl⟩ := rv
          have hal : q < al.length := (List.getElem?_eq_some_iff.mp ea).1
          have kd : ∀ b u, H b = some u → b ∉ al → H b = some u ∧ b ∉ al.take q := fun b u e mm => ⟨e, fun z => mm (List.mem_of_mem_take z)⟩
          have rx := cold_rep (Y := Y) (X := X) (rs.obj q a o ea eo) ex (not_mem_take rs.nd ea) kd
          refine ⟨m, env.set i (some (.d x)), S.take q, al.take q, by rw [List.length_take]; omega, ⟨by simp [re.len], fun j w e => ?_⟩, rs.cutTo q, RunF.on h' (Step.cutTo hq (Nat.le_of_lt hal))⟩
          by_cases hj : i = j
          · subst hj
            rw [List.getElem?_set_self (List.getElem?_eq_some_iff.mp e2).1] at e
            cases e
            exact ⟨_, ev, rx⟩
          · rw [List.getElem?_set_ne hj] at e
            obtain ⟨u, eu, ru⟩ := re.at_ j w e
            refine ⟨u, eu, ?_⟩
            cases w with
            | d y => exact RepD.stay kd _ _ ru
            | loc k =>
              have hk : k < q := by
                have m1 : some (W.loc k) ∈ env.set i none := List.mem_of_getElem? (i := j) (by rw [List.getElem?_set_ne hj]; exact e)
                have := List.all_eq_true.mp hall _ m1
                simpa using this
              obtain ⟨b, eb, rfl⟩ := ru
              exact ⟨b, by rw [List.getElem?_take_of_lt hk]; exact eb, rfl⟩
      · exact h'.elim)
end
end Ev
end
section
/-! EvDF: loops. Own work. -/
set_option linter.all false
set_option autoImplicit false
set_option maxRecDepth 100000
set_option maxHeartbeats 1000000
namespace Ev
open PySem PySem.Spec PyProof.Rows L2
section
variable {Y : Txt} {X : Cx} {n : Nat} {c : Sco} {Z : WX} {pos : Pos}
/-- a loop's body -/
noncomputable def turnF (T : Tab) (Φ : Phi) (m : Nat) (tg : Tn) (body : Sms) : Ev.D → Env → Store → R Fl := fun x env S => match bindN tg x env with
  | some e => evSs T Φ m body e S
  | none => .bad
theorem z_for (G : Good Y X n c Z) {tg : Tn} {it : It} {body : Sms} {et ei : Expr} {bs : List Stmt} (hp : PassesOwn (model X.prog X.w) X.A X.env X.xe) (hi : PI X et ei (tI Y X n Z it)) (hg : chkN c tg et = true) (hb : PSs X bs (tSs Y X n Z body)) (hs : ∀ x, foldedSetIterable ei X.env x = pure x) :
    PS X (.For et ei bs [] pos) (tS Y X n Z (.loop tg it body)) := by
  refine PS.imp (ps_for hp G.calm hi (g_name G hg) hb hs) ?_
  rintro D σ H ⟨m, env, S, al, hm, re, rs, h⟩
  have h' : RunF (Y.lay X.K X.w) m H al D Z (R.bindX env (evI Y.T (callD Y.T n) it env S) fun xs S1 => loopR (turnF Y.T (callD Y.T n) m tg body) xs env S1) := h
  refine ⟨env, S, al, re, rs, RunF.bindX (Rp := fun H1 al1 ds J => Goes (Y.lay X.K X.w) J ds H1 al1) h' re hm fun ds S1 J H1 al1 _ st rs1 gs h1 => ?_⟩
  have w : Walk J ds.length (fun H => ∃ al, Step 0 H1 al1 H al ∧ There H al) (fun i H x H' => ∀ al, Step 0 H1 al1 H al → There H al → (∀ a o, H a = some o → H' a = some o) ∧ ∀ d, ds[i]? = some d → RepD (Y.lay X.K X.w) H' al d x) :=
    ⟨fun i H hi ⟨al, st, _⟩ => gs.go i H al hi st, fun H ⟨al, st, _⟩ => gs.stop H al st, fun i H x H' hi _ y al st th => gs.yld i H al x H' hi st th y⟩
  refine for_it w (fun i σ H => ∃ env S al, m ≤ al.length ∧ Step 0 H1 al1 H al ∧ RelE (Y.lay X.K X.w) H al env σ ∧ RelS (Y.lay X.K X.w) H S al ∧ RunF (Y.lay X.K X.w) m H al D Z (loopR (turnF Y.T (callD Y.T n) m tg body) (ds.drop i) env S)) ?_ ?_ ?_ ?_
  · exact ⟨env, S1, al1, Nat.le_trans hm st.le', Step.refl (Nat.zero_le _), re.step st (Nat.le_refl _), rs1, h1⟩
  · rintro i σ H hi ⟨env, S, al, -, st, -, rs, -⟩
    exact ⟨al, st, fun a ha => rs.there ha⟩
  · rintro i x σ H H' hi ⟨env, S, al, hm1, sti, rei, rsi, hr⟩ y
    obtain ⟨kx, rx⟩ := y al sti fun a ha => rsi.there ha
    have ed : ds[i]? = some ds[i] := List.getElem?_eq_getElem hi
    have rd := rx _ ed
    have stm : Step m H al H' al := Step.kept hm1 kx
    rw [List.drop_eq_getElem_cons hi] at hr
    have hr2 : RunF (Y.lay X.K X.w) m H al D Z ((turnF Y.T (callD Y.T n) m tg body ds[i] env S).bind fun fl S1 => match fl with
      | .nx e => loopR (turnF Y.T (callD Y.T n) m tg body) (ds.drop (i + 1)) e S1
      | .ct e => loopR (turnF Y.T (callD Y.T n) m tg body) (ds.drop (i + 1)) e S1
      | .bk e => .ok (.nx e) S1
      | .rt w => .ok (.rt w) S1
      | .ex c vs e => .ok (.ex c vs e) S1) := hr
    cases qb : bindN tg ds[i] env with
    | none =>
      rw [show turnF Y.T (callD Y.T n) m tg body ds[i] env S = .bad by unfold turnF; rw [qb]] at hr2
      exact hr2.elim
    | some e =>
      rw [show turnF Y.T (callD Y.T n) m tg body ds[i] env S = evSs Y.T (callD Y.T n) m body e S by unfold turnF; rw [qb]] at hr2
      refine ⟨env, S, al, ds[i], e, RelE.step (Step.kept (Nat.le_refl _) kx) (Nat.le_refl _) rei, rsi.kept kx, rd, qb, fun σ2 re2 _ => ⟨m, e, S, al, hm1, re2, rsi.kept kx, ?_⟩⟩
      have hr3 := hr2.on stm
      cases q : evSs Y.T (callD Y.T n) m body e S with
      | bad => rw [q] at hr3; exact hr3
      | ex _ _ _ => rw [q] at hr3; exact hr3
      | ok fl S2 =>
        rw [q, R.bind_ok] at hr3
        intro H4 al4 st4 rs4
        have s4 : Step 0 H1 al1 H4 al4 := sti.trans ((stm.trans st4).mono (Nat.zero_le _))
        cases fl with
        | nx e' => exact fun σ' r' => ⟨e', S2, al4, st4.le', s4, r', rs4, RunF.on hr3 st4⟩
        | ct e' => exact fun σ' r' => ⟨e', S2, al4, st4.le', s4, r', rs4, RunF.on hr3 st4⟩
        | bk e' => exact hr3 H4 al4 st4 rs4
        | rt w => exact hr3 H4 al4 st4 rs4
        | ex cc vs e' => exact hr3 H4 al4 st4 rs4
  · rintro σ H ⟨env, S, al, hm1, -, rei, rsi, hr⟩
    rw [List.drop_length] at hr
    exact RunF.here (fl := .nx env) hr hm1 rsi σ rei
theorem z_while (G : Good Y X n c Z) {e : Ex} {body : Sms} {ea : Expr} {bs : List Stmt} (hp : PassesOwn (model X.prog X.w) X.A X.env X.xe) (he : PT X ea (tT Y X n Z e)) (hb : PSs X bs (tSs Y X n Z body)) : PS X (.While ea bs [] pos) (tS Y X n Z (.whil e body)) := by
  refine PS.imp (ps_while hp he hb) ?_
  rintro D σ H ⟨m, env, S, al, hm, re, rs, h⟩
  have h' : RunF (Y.lay X.K X.w) m H al D Z (whileR (fun env S => evT Y.T (callD Y.T n) e (evE Y.T (callD Y.T n) e) env S) (fun env S => evSs Y.T (callD Y.T n) m body env S) env S) := h
  unfold whileR at h'
  split at h'
  · rename_i hx
    generalize hx.choose = k0 at h'
    refine ⟨fun k σ H => ∃ env S al, m ≤ al.length ∧ RelE (Y.lay X.K X.w) H al env σ ∧ RelS (Y.lay X.K X.w) H S al ∧ RunF (Y.lay X.K X.w) m H al D Z (itW (fun env S => evT Y.T (callD Y.T n) e (evE Y.T (callD Y.T n) e) env S) (fun env S => evSs Y.T (callD Y.T n) m body env S) k env S), ⟨k0, env, S, al, hm, re, rs, h'⟩, ?_⟩
    rintro k σ H ⟨env, S, al, hm, re, rs, h⟩
    cases k with
    | zero => exact h.elim
    | succ k =>
      have h2 : RunF (Y.lay X.K X.w) m H al D Z (R.bindX env (evT Y.T (callD Y.T n) e (evE Y.T (callD Y.T n) e) env S) fun t S1 => if t then (evSs Y.T (callD Y.T n) m body env S1).bind fun fl S2 => match fl with
        | .nx e' => itW (fun env S => evT Y.T (callD Y.T n) e (evE Y.T (callD Y.T n) e) env S) (fun env S => evSs Y.T (callD Y.T n) m body env S) k e' S2
        | .ct e' => itW (fun env S => evT Y.T (callD Y.T n) e (evE Y.T (callD Y.T n) e) env S) (fun env S => evSs Y.T (callD Y.T n) m body env S) k e' S2
        | .bk e' => .ok (.nx e') S2
        | .rt w => .ok (.rt w) S2
        | .ex c vs e' => .ok (.ex c vs e') S2
      else .ok (.nx env) S1) := h
      refine ⟨env, S, al, re, rs, RunF.bindX (Rp := fun _ _ a b => a = b) h2 re hm fun t S1 b H1 al1 _ st rs1 eb h3 => ?_⟩
      subst eb
      have re1 := re.step st (Nat.le_refl _)
      have hm1 := Nat.le_trans hm st.le'
      cases t with
      | false => exact RunF.here (fl := .nx env) h3 hm1 rs1 σ re1
      | true =>
        refine ⟨fun σ' H' => ∃ env S al, m ≤ al.length ∧ RelE (Y.lay X.K X.w) H' al env σ' ∧ RelS (Y.lay X.K X.w) H' S al ∧ RunF (Y.lay X.K X.w) m H' al D Z (itW (fun env S => evT Y.T (callD Y.T n) e (evE Y.T (callD Y.T n) e) env S) (fun env S => evSs Y.T (callD Y.T n) m body env S) k env S), fun σ' H' q => ⟨k, Nat.lt_succ_self _, q⟩, m, env, S1, al1, hm1, re1, rs1, ?_⟩
        have h4 : RunF (Y.lay X.K X.w) m H1 al1 D Z ((evSs Y.T (callD Y.T n) m body env S1).bind fun fl S2 => match fl with
          | .nx e' => itW (fun env S => evT Y.T (callD Y.T n) e (evE Y.T (callD Y.T n) e) env S) (fun env S => evSs Y.T (callD Y.T n) m body env S) k e' S2
          | .ct e' => itW (fun env S => evT Y.T (callD Y.T n) e (evE Y.T (callD Y.T n) e) env S) (fun env S => evSs Y.T (callD Y.T n) m body env S) k e' S2
          | .bk e' => .ok (.nx e') S2
          | .rt w => .ok (.rt w) S2
          | .ex c vs e' => .ok (.ex c vs e') S2) := h3
        cases q : evSs Y.T (callD Y.T n) m body env S1 with
        | bad => rw [q] at h4; exact h4
        | ex _ _ _ => rw [q] at h4; exact h4
        | ok fl S2 =>
          rw [q, R.bind_ok] at h4
          intro H4 al4 st4 rs4
          cases fl with
          | nx e' => exact fun σ' r' => ⟨e', S2, al4, st4.le', r', rs4, RunF.on h4 st4⟩
          | ct e' => exact fun σ' r' => ⟨e', S2, al4, st4.le', r', rs4, RunF.on h4 st4⟩
          | bk e' => exact h4 H4 al4 st4 rs4
          | rt w => exact h4 H4 al4 st4 rs4
          | ex cc vs e' => exact h4 H4 al4 st4 rs4
  · exact h'.elim
end
end Ev
end
section
/-! EvDR: loops over lists of the caller's, as they stand. Own work. -/
set_option linter.all false
set_option autoImplicit false
set_option maxRecDepth 100000
set_option maxHeartbeats 2000000
namespace Ev
open PySem PySem.Spec PyProof.Rows L2 RZ
section
variable {Y : Txt} {X : L2.Cx} {n : Nat} {c : Sco} {Z : WX} {pos p : Pos}
/-- how a list or a tuple is walked -/
def GoL (L : Lay) (K : PySem.W.Frag) (en : Bool) (J : L2.It) (w : W) (H1 : Hp) (al1 : List Addr) : Prop := match w with
  | .d (.lst xs) => Goes L J (if en then enumD xs else xs) H1 al1
  | .d (.tup xs) => Goes L J (if en then enumD xs else xs) H1 al1
  | .loc k => ∃ ad, al1[k]? = some ad ∧ J = (if en then Ite K ad else Itl K ad)
  | _ => False
def seqW (S : Store) : W → Bool
  | .d (.lst _) => true
  | .d (.tup _) => true
  | .loc k => isLs S (.loc k)
  | _ => false
def takW (S : Store) (w : W) : R W := if seqW S w = true then .ok w S else .bad
def tIL (Y : Txt) (X : Cx) (n : Nat) (Z : WX) (en : Bool) (a : Ex) : TI := fun σ H R2 => ∃ env S al, RelE (Y.lay X.K X.w) H al env σ ∧ RelS (Y.lay X.K X.w) H S al ∧
  Runs (Y.lay X.K X.w) al.length H al (fun H1 al1 w J => GoL (Y.lay X.K X.w) X.K en J w H1 al1) ((evE Y.T (callD Y.T n) a env S).bind fun w S1 => takW S1 w) R2 (AtX Z σ)
theorem l_seq {a : Ex} {ea et : Expr} (ha : PE X ea (tE Y X n Z a)) : PI X et ea (tIL Y X n Z false a) := by
  refine ⟨fun pins s σ H R2 I h => ?_⟩
  obtain ⟨env, S, al, re, rs, h⟩ := h
  cases q : evE Y.T (callD Y.T n) a env S with
  | bad => rw [q] at h; exact h.elim
  | ex cc vs S1 =>
    rw [q] at h
    refine (pi_list ha).run pins s σ H R2 I ⟨env, S, al, re, rs, ?_⟩
    rw [q]; exact h
  | ok w S1 =>
    rw [q, R.bind_ok] at h
    unfold takW at h
    split at h
    · rename_i sq
      cases w with
      | loc k =>
        refine (pi_list ha).run pins s σ H R2 I ⟨env, S, al, re, rs, ?_⟩
        rw [q]
        intro v H1 al1 st rs1 rv
        obtain ⟨ad, e1, rfl⟩ := rv
        simp only [seqW, isLs] at sq
        split at sq
        · rename_i xs e
          obtain ⟨vs, q2, -⟩ := rs1.obj k ad _ e1 e
          exact ⟨ad, rfl, ⟨vs, .inl (.inl q2)⟩, h _ H1 al1 st rs1 ⟨ad, e1, rfl⟩⟩
        · cases sq
      | d y =>
        cases y with
        | lst xs =>
          refine (pi_list ha).run pins s σ H R2 I ⟨env, S, al, re, rs, ?_⟩
          rw [q]
          intro v H1 al1 st rs1 rv
          simp only [RepW, RepD] at rv
          obtain ⟨a', vs, rfl, hH, hn, r⟩ := rv
          exact ⟨a', rfl, ⟨vs, .inl (.inl hH)⟩, h _ H1 al1 st rs1 (goes_lst hH hn r)⟩
        | tup xs =>
          refine (pi_tup ha).run pins s σ H R2 I ⟨env, S, al, re, rs, ?_⟩
          rw [q]
          intro v H1 al1 st rs1 rv
          simp only [RepW, RepD] at rv
          obtain ⟨a', vs, rfl, hH, r⟩ := rv
          exact ⟨a', rfl, ⟨vs, hH.elim (fun z => .inl (.inl z.1)) .inr⟩, h _ H1 al1 st rs1 (goes_tup lay_K hH r)⟩
        | _ => cases sq
    · exact h.elim
theorem l_enu (G : Good Y X n c Z) {a : Ex} {ea : Expr} {elts : List Expr} {kk : Nat} {tpos : Pos} (hx : ("enumerate" : Str) ∈ Y.fre) (hg : glB c.sc "enumerate" = true) (ha : PE X ea (tE Y X n Z a)) (hs : notStar ea = true) :
    PI X (.Tuple elts kk tpos) (.Call (.Name "enumerate" p) [ea] [] pos) (tIL Y X n Z true a) := by
  obtain ⟨g1, g2⟩ := range_g G hx hg
  refine ⟨fun pins s σ H R2 I h => ?_⟩
  obtain ⟨env, S, al, re, rs, h⟩ := h
  cases q : evE Y.T (callD Y.T n) a env S with
  | bad => rw [q] at h; exact h.elim
  | ex cc vs S1 =>
    rw [q] at h
    refine (pi_enum g1 g2 (pa_cons ha pa_nil (star_cons hs)) (star_cons hs)).run pins s σ H R2 I ⟨env, S, al, re, rs, ?_⟩
    rw [q]; exact h
  | ok w S1 =>
    rw [q, R.bind_ok] at h
    unfold takW at h
    split at h
    · rename_i sq
      cases w with
      | loc k =>
        refine (pi_enum g1 g2 (pa_cons ha pa_nil (star_cons hs)) (star_cons hs)).run pins s σ H R2 I ⟨env, S, al, re, rs, ?_⟩
        rw [q]
        intro v H1 al1 st rs1 rv
        obtain ⟨ad, e1, rfl⟩ := rv
        simp only [seqW, isLs] at sq
        split at sq
        · rename_i xs e
          obtain ⟨vs, q2, -⟩ := rs1.obj k ad _ e1 e
          exact ⟨ad, vs, rfl, .inl (.inl q2), (Runs.on h st st.le').here (Nat.le_refl _) rs1 ⟨ad, e1, rfl⟩⟩
        · cases sq
      | d y =>
        cases y with
        | lst xs =>
          refine (pi_enum g1 g2 (pa_cons ha pa_nil (star_cons hs)) (star_cons hs)).run pins s σ H R2 I ⟨env, S, al, re, rs, ?_⟩
          rw [q]
          intro v H1 al1 st rs1 rv
          simp only [RepW, RepD] at rv
          obtain ⟨a', vs, rfl, hH, hn, r⟩ := rv
          exact ⟨a', vs, rfl, .inl (.inl hH), (Runs.on h st st.le').here (Nat.le_refl _) rs1 (goes_enu hH hn r)⟩
        | tup xs =>
          refine (pi_enuT g1 g2 (pa_cons ha pa_nil (star_cons hs)) (star_cons hs)).run pins s σ H R2 I ⟨env, S, al, re, rs, ?_⟩
          rw [q]
          intro v H1 al1 st rs1 rv
          simp only [RepW, RepD] at rv
          obtain ⟨a', vs, rfl, hH, r⟩ := rv
          have sq : SqT X.K H1 a' vs := hH.elim (fun z => .inl (.inl z.1)) .inr
          exact ⟨a', vs, rfl, sq, (Runs.on h st st.le').here (Nat.le_refl _) rs1 (goes_enuG walk_enuT (fun st2 => hH.elim (fun z => .inl (.inl (st2.keep _ _ z.1 z.2).1)) .inr) r)⟩
        | _ => cases sq
    · exact h.elim
/-- data walked -/
theorem for_goes {tg : Tn} {body : Sms} {env : Env} {σ : L2.St} {H1 : Hp} {al1 : List Addr} {S1 : Store} {J : L2.It} {ds : List Ev.D} {m : Nat} {D : Ends} (hm : m ≤ al1.length) (re : RelE (Y.lay X.K X.w) H1 al1 env σ) (rs1 : RelS (Y.lay X.K X.w) H1 S1 al1)
    (gs : Goes (Y.lay X.K X.w) J ds H1 al1) (h1 : RunF (Y.lay X.K X.w) m H1 al1 D Z (loopR (turnF Y.T (callD Y.T n) m tg body) ds env S1)) :
    ∃ W : Nat → Nat → L2.St → Hp → Prop, (∃ m, W 0 m σ H1) ∧ ∀ i m σ H, W i m σ H →
      (J.stop i H ∧ D.nx σ H) ∨ (J.go i H ∧ ∃ N : L2.St → Hp → Prop, (∀ σ' H', N σ' H' → ∃ m', m' < m ∧ W (i + 1) m' σ' H') ∧ ∀ x H', J.yld i H x H' → gN Y X tg x σ H' fun σ2 H2 => tSs Y X n Z body { D with nx := N, ct := N, bk := D.nx } σ2 H2) := by
  have w : Walk J ds.length (fun H => ∃ al, Step 0 H1 al1 H al ∧ There H al) (fun i H x H' => ∀ al, Step 0 H1 al1 H al → There H al → (∀ a o, H a = some o → H' a = some o) ∧ ∀ d, ds[i]? = some d → RepD (Y.lay X.K X.w) H' al d x) :=
    ⟨fun i H hi ⟨al, st, _⟩ => gs.go i H al hi st, fun H ⟨al, st, _⟩ => gs.stop H al st, fun i H x H' hi _ y al st th => gs.yld i H al x H' hi st th y⟩
  refine for_it w (fun i σ H => ∃ env S al, m ≤ al.length ∧ Step 0 H1 al1 H al ∧ RelE (Y.lay X.K X.w) H al env σ ∧ RelS (Y.lay X.K X.w) H S al ∧ RunF (Y.lay X.K X.w) m H al D Z (loopR (turnF Y.T (callD Y.T n) m tg body) (ds.drop i) env S)) ?_ ?_ ?_ ?_
  · exact ⟨env, S1, al1, hm, Step.refl (Nat.zero_le _), re, rs1, h1⟩
  · rintro i σ H hi ⟨env, S, al, -, st, -, rs, -⟩
    exact ⟨al, st, fun a ha => rs.there ha⟩
  · rintro i x σ H H' hi ⟨env, S, al, hm1, sti, rei, rsi, hr⟩ y
    obtain ⟨kx, rx⟩ := y al sti fun a ha => rsi.there ha
    have ed : ds[i]? = some ds[i] := List.getElem?_eq_getElem hi
    have rd := rx _ ed
    have stm : Step m H al H' al := Step.kept hm1 kx
    rw [List.drop_eq_getElem_cons hi] at hr
    have hr2 : RunF (Y.lay X.K X.w) m H al D Z ((turnF Y.T (callD Y.T n) m tg body ds[i] env S).bind fun fl S1 => match fl with
      | .nx e => loopR (turnF Y.T (callD Y.T n) m tg body) (ds.drop (i + 1)) e S1
      | .ct e => loopR (turnF Y.T (callD Y.T n) m tg body) (ds.drop (i + 1)) e S1
      | .bk e => .ok (.nx e) S1
      | .rt w => .ok (.rt w) S1
      | .ex c vs e => .ok (.ex c vs e) S1) := hr
    cases qb : bindN tg ds[i] env with
    | none =>
      rw [show turnF Y.T (callD Y.T n) m tg body ds[i] env S = .bad by unfold turnF; rw [qb]] at hr2
      exact hr2.elim
    | some e =>
      rw [show turnF Y.T (callD Y.T n) m tg body ds[i] env S = evSs Y.T (callD Y.T n) m body e S by unfold turnF; rw [qb]] at hr2
      refine ⟨env, S, al, ds[i], e, RelE.step (Step.kept (Nat.le_refl _) kx) (Nat.le_refl _) rei, rsi.kept kx, rd, qb, fun σ2 re2 _ => ⟨m, e, S, al, hm1, re2, rsi.kept kx, ?_⟩⟩
      have hr3 := hr2.on stm
      cases q : evSs Y.T (callD Y.T n) m body e S with
      | bad => rw [q] at hr3; exact hr3
      | ex _ _ _ => rw [q] at hr3; exact hr3
      | ok fl S2 =>
        rw [q, R.bind_ok] at hr3
        intro H4 al4 st4 rs4
        have s4 : Step 0 H1 al1 H4 al4 := sti.trans ((stm.trans st4).mono (Nat.zero_le _))
        cases fl with
        | nx e' => exact fun σ' r' => ⟨e', S2, al4, st4.le', s4, r', rs4, RunF.on hr3 st4⟩
        | ct e' => exact fun σ' r' => ⟨e', S2, al4, st4.le', s4, r', rs4, RunF.on hr3 st4⟩
        | bk e' => exact hr3 H4 al4 st4 rs4
        | rt w => exact hr3 H4 al4 st4 rs4
        | ex cc vs e' => exact hr3 H4 al4 st4 rs4
  · rintro σ H ⟨env, S, al, hm1, -, rei, rsi, hr⟩
    rw [List.drop_length] at hr
    exact RunF.here (fl := .nx env) hr hm1 rsi σ rei
/-- a list of the store walked -/
theorem for_live {tg : Tn} {body : Sms} {env : Env} {σ : L2.St} {H1 : Hp} {al1 : List Addr} {S1 : Store} {J : L2.It} {m k f0 : Nat} {ad : Addr} {en : Bool} {D : Ends} (hm : m ≤ al1.length) (re : RelE (Y.lay X.K X.w) H1 al1 env σ) (rs1 : RelS (Y.lay X.K X.w) H1 S1 al1)
    (hk : k < m) (e1 : al1[k]? = some ad) (eJ : J = if en then Ite X.K ad else Itl X.K ad) (h1 : RunF (Y.lay X.K X.w) m H1 al1 D Z (liveR en (turnF Y.T (callD Y.T n) m tg body) k f0 0 env S1)) :
    ∃ W : Nat → Nat → L2.St → Hp → Prop, (∃ m, W 0 m σ H1) ∧ ∀ i m σ H, W i m σ H →
      (J.stop i H ∧ D.nx σ H) ∨ (J.go i H ∧ ∃ N : L2.St → Hp → Prop, (∀ σ' H', N σ' H' → ∃ m', m' < m ∧ W (i + 1) m' σ' H') ∧ ∀ x H', J.yld i H x H' → gN Y X tg x σ H' fun σ2 H2 => tSs Y X n Z body { D with nx := N, ct := N, bk := D.nx } σ2 H2) := by
  refine ⟨fun i f σ H => ∃ env S al, m ≤ al.length ∧ al[k]? = some ad ∧ RelE (Y.lay X.K X.w) H al env σ ∧ RelS (Y.lay X.K X.w) H S al ∧ RunF (Y.lay X.K X.w) m H al D Z (liveR en (turnF Y.T (callD Y.T n) m tg body) k f i env S), ⟨f0, env, S1, al1, hm, e1, re, rs1, h1⟩, ?_⟩
  rintro i f σ H ⟨env, S, al, hm1, ek, rei, rsi, hr⟩
  cases f with
  | zero =>
    unfold liveR at hr
    split at hr
    · rename_i xs es
      split at hr
      · rename_i hle
        obtain ⟨vs, q2, r2⟩ := rsi.obj k ad _ ek es
        have hl := RepDs.length r2
        refine .inl ⟨?_, RunF.here (fl := .nx env) hr hm1 rsi σ rei⟩
        subst eJ
        cases en
        · exact ⟨vs, .inl (.inl q2), by omega⟩
        · exact ⟨vs, .inl (.inl q2), by omega⟩
      · exact hr.elim
    · exact hr.elim
  | succ f =>
    unfold liveR at hr
    split at hr
    · rename_i xs es
      split at hr
      · rename_i x ex
        obtain ⟨vs, q2, r2⟩ := rsi.obj k ad _ ek es
        obtain ⟨v, ev, rv⟩ := r2.get ex
        have sq : SqL X.K H ad vs := .inl (.inl q2)
        have fin : ∀ (d : Ev.D) (u : V) (H' : Hp), (d = if en then .tup [.int (i : Nat), x] else x) → (∀ a o, H a = some o → H' a = some o) → RepD (Y.lay X.K X.w) H' al d u → gN Y X tg u σ H' fun σ2 H2 => tSs Y X n Z body { D with nx := fun σ H => ∃ env S al, m ≤ al.length ∧ al[k]? = some ad ∧ RelE (Y.lay X.K X.w) H al env σ ∧ RelS (Y.lay X.K X.w) H S al ∧ RunF (Y.lay X.K X.w) m H al D Z (liveR en (turnF Y.T (callD Y.T n) m tg body) k f (i + 1) env S), ct := fun σ H => ∃ env S al, m ≤ al.length ∧ al[k]? = some ad ∧ RelE (Y.lay X.K X.w) H al env σ ∧ RelS (Y.lay X.K X.w) H S al ∧ RunF (Y.lay X.K X.w) m H al D Z (liveR en (turnF Y.T (callD Y.T n) m tg body) k f (i + 1) env S), bk := D.nx } σ2 H2 := by
          intro d u H' ed kx rd
          rw [← ed] at hr
          have stm : Step m H al H' al := Step.kept hm1 kx
          cases qb : bindN tg d env with
          | none =>
            rw [show turnF Y.T (callD Y.T n) m tg body d env S = .bad by unfold turnF; rw [qb]] at hr
            exact hr.elim
          | some e =>
            rw [show turnF Y.T (callD Y.T n) m tg body d env S = evSs Y.T (callD Y.T n) m body e S by unfold turnF; rw [qb]] at hr
            refine ⟨env, S, al, d, e, RelE.step (Step.kept (Nat.le_refl _) kx) (Nat.le_refl _) rei, rsi.kept kx, rd, qb, fun σ2 re2 _ => ⟨m, e, S, al, hm1, re2, rsi.kept kx, ?_⟩⟩
            have hr3 := hr.on stm
            cases q : evSs Y.T (callD Y.T n) m body e S with
            | bad => rw [q] at hr3; exact hr3
            | ex _ _ _ => rw [q] at hr3; exact hr3
            | ok fl S2 =>
              rw [q, R.bind_ok] at hr3
              intro H4 al4 st4 rs4
              have ek4 : al4[k]? = some ad := (st4.get hk).trans ek
              cases fl with
              | nx e' => exact fun σ' r' => ⟨e', S2, al4, st4.le', ek4, r', rs4, RunF.on hr3 st4⟩
              | ct e' => exact fun σ' r' => ⟨e', S2, al4, st4.le', ek4, r', rs4, RunF.on hr3 st4⟩
              | bk e' => exact hr3 H4 al4 st4 rs4
              | rt w => exact hr3 H4 al4 st4 rs4
              | ex cc vs e' => exact hr3 H4 al4 st4 rs4
        refine .inr ⟨?_, _, fun σ' H' q => ⟨f, Nat.lt_succ_self _, q⟩, ?_⟩
        · subst eJ
          cases en
          · exact ⟨vs, v, sq, ev⟩
          · exact ⟨vs, v, sq, ev⟩
        · intro u H' y
          subst eJ
          cases en
          · obtain ⟨rfl, y⟩ := y
            have e2 := y vs sq
            rw [ev] at e2; cases e2
            exact fin _ _ _ rfl (fun _ _ z => z) rv
          · obtain ⟨T, u2, rfl, hT, rfl, y⟩ := y
            have e2 := y vs sq
            rw [ev] at e2; cases e2
            refine fin _ _ _ rfl (keep_upd hT) (new_tup hT (fun a ha => rsi.there ha) (.cons ?_ (.one rv)))
            simp [RepD]
      · exact hr.elim
    · exact hr.elim
noncomputable def contL (T : Tab) (Φ : Phi) (m : Nat) (en : Bool) (tg : Tn) (body : Sms) (env : Env) (w : W) (S1 : Store) : R Fl := match w with
  | .d (.lst xs) => loopR (turnF T Φ m tg body) (if en then enumD xs else xs) env S1
  | .d (.tup xs) => loopR (turnF T Φ m tg body) (if en then enumD xs else xs) env S1
  | .loc k => if k < m then (match S1[k]? with
    | some (.lst xs) => liveR en (turnF T Φ m tg body) k xs.length 0 env S1
    | _ => .bad) else .bad
  | _ => .bad
theorem contL_take {T : Tab} {Φ : Phi} {m : Nat} {en : Bool} {tg : Tn} {body : Sms} {env : Env} {w : W} {S1 : Store} (h : contL T Φ m en tg body env w S1 ≠ .bad) : takW S1 w = .ok w S1 := by
  unfold contL at h
  unfold takW
  cases w with
  | loc k =>
    simp only at h
    split at h
    · split at h
      · rename_i e; simp [seqW, isLs, e]
      · exact (h rfl).elim
    · exact (h rfl).elim
  | d y =>
    cases y with
    | lst _ => rfl
    | tup _ => rfl
    | _ => exact (h rfl).elim
theorem z_forL (G : Good Y X n c Z) {en : Bool} {tg : Tn} {a : Ex} {body : Sms} {et ei : Expr} {bs : List Stmt} (hp : PassesOwn (model X.prog X.w) X.A X.env X.xe) (hi : PI X et ei (tIL Y X n Z en a)) (hg : chkN c tg et = true) (hb : PSs X bs (tSs Y X n Z body)) (hs : ∀ x, foldedSetIterable ei X.env x = pure x) :
    PS X (.For et ei bs [] pos) (tS Y X n Z (.loopL en tg a body)) := by
  refine PS.imp (ps_for hp G.calm hi (g_name G hg) hb hs) ?_
  rintro D σ H ⟨m, env, S, al, hm, re, rs, h⟩
  have h0 : RunF (Y.lay X.K X.w) m H al D Z (R.bindX env (evE Y.T (callD Y.T n) a env S) fun w S1 => contL Y.T (callD Y.T n) m en tg body env w S1) := h
  have h' : RunF (Y.lay X.K X.w) m H al D Z (R.bindX env ((evE Y.T (callD Y.T n) a env S).bind fun w S1 => takW S1 w) fun w S1 => contL Y.T (callD Y.T n) m en tg body env w S1) := by
    cases q : evE Y.T (callD Y.T n) a env S with
    | bad => rw [q] at h0; exact h0
    | ex _ _ _ => rw [q] at h0; exact h0
    | ok w S1 =>
      rw [q] at h0
      rw [R.bind_ok]
      have h1 : RunF (Y.lay X.K X.w) m H al D Z (contL Y.T (callD Y.T n) m en tg body env w S1) := h0
      rw [contL_take (fun e => by rw [e] at h1; exact h1)]
      exact h0
  refine ⟨env, S, al, re, rs, RunF.bindX (Rp := fun H1 al1 w J => GoL (Y.lay X.K X.w) X.K en J w H1 al1) h' re hm fun w S1 J H1 al1 _ st rs1 gs h1 => ?_⟩
  have hm1 := Nat.le_trans hm st.le'
  have re1 := re.step st (Nat.le_refl _)
  unfold contL at h1
  cases w with
  | loc k =>
    obtain ⟨ad, e1, eJ⟩ := gs
    simp only at h1
    split at h1
    · rename_i hk
      split at h1
      · exact for_live hm1 re1 rs1 hk e1 eJ h1
      · exact h1.elim
    · exact h1.elim
  | d y =>
    cases y with
    | lst xs => exact for_goes hm1 re1 rs1 gs h1
    | tup xs => exact for_goes hm1 re1 rs1 gs h1
    | _ => exact h1.elim
end
end Ev
end
section
/-! EvDS: comprehensions over lists of the store, as they stand. Own work. -/
set_option linter.all false
set_option autoImplicit false
set_option maxRecDepth 100000
set_option maxHeartbeats 2000000
namespace Ev
open PySem PySem.Spec PyProof.Rows L2 RZ
section
variable {Y : Txt} {X : L2.Cx} {n : Nat} {c : Sco} {Z : WX} {pos : Pos}
/-- a list of the store, and what goes on with it -/
def contC (T : Tab) (Φ : Phi) (m : Bool) (tg : Tn) (cs : Eo) (elt : Ex) (own : List Nat) (env : Env) (w : W) (S1 : Store) : R W := match w with
  | .loc k => (match S1[k]? with
    | some (.lst xs) => (accL (turnC T Φ tg cs elt own env) S1.length k xs.length 0 (S1 ++ [.hid []])).noex.bind fun _ S2 => accE m S1.length S2
    | _ => .bad)
  | _ => .bad
theorem cmprL_read (G : Good Y X n c Z) {m : Bool} {elt : Ex} {tg : Tn} {a : Ex} {cs : Eo} {own : List Nat} (ho : ∀ i ∈ slotsN tg, i ∈ own) : ∀ σ H Q, tE Y X n Z (.cmprL m elt tg a cs own) σ H Q →
    tLc (tIL Y X n Z false a) (gN Y X tg) (tC Y X n (fun _ _ _ _ => False) cs) (tE Y X n (fun _ _ _ _ => False) elt) own σ H Q := by
  rintro σ H Q ⟨env, S, al, re, rs, h⟩
  have h0 : Runs (Y.lay X.K X.w) al.length H al (RepW (Y.lay X.K X.w)) ((evE Y.T (callD Y.T n) a env S).bind fun w S1 => contC Y.T (callD Y.T n) m tg cs elt own env w S1) Q (AtX Z σ) := h
  have h' : Runs (Y.lay X.K X.w) al.length H al (RepW (Y.lay X.K X.w)) (((evE Y.T (callD Y.T n) a env S).bind fun w S1 => takW S1 w).bind fun w S1 => contC Y.T (callD Y.T n) m tg cs elt own env w S1) Q (AtX Z σ) := by
    cases q : evE Y.T (callD Y.T n) a env S with
    | bad => rw [q] at h0; exact h0
    | ex _ _ _ => rw [q] at h0; exact h0
    | ok w S1 =>
      rw [q, R.bind_ok] at h0
      rw [R.bind_ok]
      have sq : takW S1 w = .ok w S1 := by
        unfold takW
        unfold contC at h0
        cases w with
        | loc k =>
          simp only at h0
          split at h0
          · rename_i e; simp [seqW, isLs, e]
          · exact h0.elim
        | d y => exact h0.elim
      rw [sq, R.bind_ok]
      exact h0
  refine ⟨env, S, al, re, rs, h'.bind fun w S1 J H1 al1 _ st rs1 gs h1 => ?_⟩
  intro Dd hD
  unfold contC at h1
  cases w with
  | d y => exact h1.elim
  | loc k =>
  obtain ⟨ad, ek1, eJ⟩ := gs
  have eJ : J = Itl X.K ad := eJ
  subst eJ
  simp only at h1
  split at h1
  case h_2 => exact h1.elim
  rename_i xs0 es0
  have hk1 : k < al1.length := (List.getElem?_eq_some_iff.1 ek1).1
  -- the whole run
  cases qa : accL (turnC Y.T (callD Y.T n) tg cs elt own env) S1.length k xs0.length 0 (S1 ++ [.hid []]) with
  | bad => rw [qa] at h1; exact h1.elim
  | ex _ _ _ => rw [qa] at h1; exact h1.elim
  | ok u Se =>
    rw [qa] at h1
    have h2 : Runs (Y.lay X.K X.w) al1.length H1 al1 (RepW (Y.lay X.K X.w)) (accE m S1.length Se) Q (AtX Z σ) := h1
    have len1 := rs1.len
    have re1 := re.step st (Nat.le_refl _)
    have k0 : ∀ a o, H1 a = some o → upd H1 Dd (.lst []) a = some o := keep_upd hD
    have st0 : Step al1.length H1 al1 (upd H1 Dd (.lst [])) (al1 ++ [Dd]) := Step.push (Nat.le_refl _) hD k0
    have rs0 : RelS (Y.lay X.K X.w) (upd H1 Dd (.lst [])) (S1 ++ [.hid []]) (al1 ++ [Dd]) := rs1.push (o := .lst []) hD k0 ⟨[], upd_same, .nil⟩
    refine ⟨fun i f H => ∃ S al, Step al1.length H1 al1 H al ∧ al[al1.length]? = some Dd ∧ RelS (Y.lay X.K X.w) H S al ∧ accL (turnC Y.T (callD Y.T n) tg cs elt own env) S1.length k f i S = .ok () Se, ⟨xs0.length, _, _, st0, by simp, rs0, qa⟩, ?_⟩
    rintro i f Hi ⟨S, al, sti, eD, rsi, qi⟩
    have ek : al[k]? = some ad := (sti.get hk1).trans ek1
    cases f with
    | zero =>
      unfold accL at qi
      split at qi
      case h_2 => cases qi
      rename_i xs es
      split at qi
      case isFalse => cases qi
      rename_i hle
      obtain ⟨vs, q2, r2⟩ := rsi.obj k ad _ ek es
      have hl := RepDs.length r2
      refine .inl ⟨⟨vs, .inl (.inl q2), by omega⟩, ?_⟩
      cases qi
      unfold accE at h2
      cases qh : Se[S1.length]? with
      | none => rw [qh] at h2; exact h2.elim
      | some so =>
        rw [qh] at h2
        cases so with
        | hid ys =>
          rw [← len1] at qh h2
          obtain ⟨acc, hacc, racc⟩ := rsi.obj _ _ _ eD qh
          have hle : al1.length ≤ al.length := sti.le'
          have hlt := (List.getElem?_eq_some_iff.mp eD).1
          cases m with
          | false =>
            refine (show Runs (Y.lay X.K X.w) al1.length H1 al1 (RepW (Y.lay X.K X.w)) (.ok (.d (.lst ys)) (Se.take al1.length)) Q _ from h2) (.ref Dd) Hi (al.take al1.length) (sti.trans (Step.cutTo (Nat.le_refl _) hle)) (rsi.cutTo _) ?_
            simp only [RepW, RepD]
            exact ⟨Dd, acc, rfl, hacc, not_mem_take rsi.nd eD, racc.stay fun a o e mm => ⟨e, fun z => mm (List.mem_of_mem_take z)⟩⟩
          | true =>
            have hlS : al1.length < Se.length := by rw [← rsi.len]; exact hlt
            have e1 : Se.take al1.length ++ [.lst ys] = (Se.take (al1.length + 1)).set al1.length (.lst ys) := by
              rw [List.take_succ_eq_append_getElem hlS]
              rw [List.set_append_right _ _ (by rw [List.length_take]; omega)]
              simp [Nat.min_eq_left (Nat.le_of_lt hlS)]
            have eD' : (al.take (al1.length + 1))[al1.length]? = some Dd := by rw [List.getElem?_take_of_lt (Nat.lt_succ_self _)]; exact eD
            refine (show Runs (Y.lay X.K X.w) al1.length H1 al1 (RepW (Y.lay X.K X.w)) (.ok (.loc al1.length) (Se.take al1.length ++ [.lst ys])) Q _ from h2) (.ref Dd) Hi (al.take (al1.length + 1)) (sti.trans (Step.cutTo (Nat.le_succ _) hlt)) ?_ ⟨Dd, eD', rfl⟩
            rw [e1]
            exact (rsi.cutTo _).write eD' (fun b u _ e => e) ⟨acc, hacc, racc.stay fun a o e mm => ⟨e, fun z => mm (List.mem_of_mem_take z)⟩⟩
        | _ => exact h2.elim
    | succ f =>
      unfold accL at qi
      split at qi
      case h_2 => cases qi
      rename_i xs es
      split at qi
      case h_2 => cases qi
      rename_i d ed
      obtain ⟨vs, q2, r2⟩ := rsi.obj k ad _ ek es
      obtain ⟨v0, ev0, rd⟩ := r2.get ed
      have sq : SqL X.K Hi ad vs := .inl (.inl q2)
      refine .inr ⟨⟨vs, v0, sq, ev0⟩, fun H => ∃ S al, Step al1.length H1 al1 H al ∧ al[al1.length]? = some Dd ∧ RelS (Y.lay X.K X.w) H S al ∧ accL (turnC Y.T (callD Y.T n) tg cs elt own env) S1.length k f (i + 1) S = .ok () Se, fun H' q => ⟨f, Nat.lt_succ_self _, q⟩, ?_⟩
      rintro x H' ⟨rfl, y⟩
      have ey := y vs sq
      rw [ev0] at ey
      cases ey
      -- the target
      cases qb : bindN tg d (Ev.wipe own env) with
      | none =>
        exfalso
        rw [show turnC Y.T (callD Y.T n) tg cs elt own env d S = .bad by unfold turnC; rw [qb]] at qi
        cases qi
      | some e =>
        rw [show turnC Y.T (callD Y.T n) tg cs elt own env d S = ((evC Y.T (callD Y.T n) cs e S).bind fun k S1 => if k then (evE Y.T (callD Y.T n) elt e S1).bind fun w S2 => match w with
          | .d y => .ok (some y) S2
          | .loc _ => .bad else .ok none S1) by unfold turnC; simp only [qb]; try rfl] at qi
        have rew : RelE (Y.lay X.K X.w) H' al (Ev.wipe own env) (L2.wipe σ own) := RelE.step sti (Nat.le_refl _) (re1.wipe own)
        refine ⟨Ev.wipe own env, S, al, d, e, rew, rsi, rd, qb, fun σ2 re2 a2 => ⟨?_, ?_⟩⟩
        · refine wipe_same ?_ fun j hj => ?_
          · have l1 := re2.len
            have l2 := rew.len
            rw [wipe_length] at l2
            rw [← l1, bindN_len qb, l2]
          · rw [a2 j (fun z => hj (ho j z)), L2.wipe_out hj]
        · cases qc : evC Y.T (callD Y.T n) cs e S with
          | bad => rw [qc] at qi; cases qi
          | ex _ _ _ => rw [qc] at qi; cases qi
          | ok b0 S2 =>
            rw [qc, R.bind_ok] at qi
            refine ⟨e, S, al, re2, rsi, ?_⟩
            rw [qc]
            rintro b H3 al3 st3 rs3 rfl
            cases b0 with
            | false =>
              exact ⟨S2, al3, sti.trans (st3.mono sti.le'), by rw [st3.get (List.getElem?_eq_some_iff.mp eD).1]; exact eD, rs3, qi⟩
            | true =>
              cases qe : evE Y.T (callD Y.T n) elt e S2 with
              | bad => rw [if_pos rfl, qe] at qi; cases qi
              | ex _ _ _ => rw [if_pos rfl, qe] at qi; cases qi
              | ok w S3 =>
                rw [if_pos rfl, qe, R.bind_ok] at qi
                refine ⟨e, S2, al3, re2.step st3 (Nat.le_refl _), rs3, ?_⟩
                rw [qe]
                intro v H4 al4 st4 rs4 rw4
                cases w with
                | loc _ => cases qi
                | d yd =>
                  rw [R.bind_ok] at qi
                  simp only at qi
                  cases qh : S3[S1.length]? with
                  | none => rw [qh] at qi; cases qi
                  | some so =>
                    rw [qh] at qi
                    cases so with
                    | hid ys =>
                      simp only at qi
                      obtain ⟨hl, qi⟩ : ys.length < lim ∧ accL (turnC Y.T (callD Y.T n) tg cs elt own env) S1.length k f (i + 1) (S3.set S1.length (.hid (ys ++ [yd]))) = .ok () Se := by
                        split at qi
                        · exact ⟨by assumption, qi⟩
                        · cases qi
                      have eD4 : al4[al1.length]? = some Dd := by
                        have l1 := (List.getElem?_eq_some_iff.mp eD).1
                        have e3 : al3[al1.length]? = some Dd := by rw [st3.get l1]; exact eD
                        rw [st4.get (List.getElem?_eq_some_iff.mp e3).1]; exact e3
                      rw [← len1] at qh
                      obtain ⟨acc, hacc, racc⟩ := rs4.obj _ _ _ eD4 qh
                      refine ⟨acc, hacc, by rw [← racc.length]; exact Nat.lt_of_lt_of_le hl lim_line, S3.set S1.length (.hid (ys ++ [yd])), al4, ?_, eD4, ?_, qi⟩
                      · have kk : ∀ b u, b ≠ Dd → H4 b = some u → upd H4 Dd (.lst (acc ++ [v])) b = some u := fun b u hb e => by rw [upd_ne hb]; exact e
                        have s4 : Step al1.length H1 al1 H4 al4 := sti.trans ((st3.mono sti.le').trans (st4.mono (Nat.le_trans sti.le' st3.le')))
                        exact s4.trans (Step.write s4.le' (List.mem_of_getElem? eD4) kk)
                      · have kk : ∀ b u, b ≠ Dd → H4 b = some u → upd H4 Dd (.lst (acc ++ [v])) b = some u := fun b u hb e => by rw [upd_ne hb]; exact e
                        have hm : Dd ∈ al4 := List.mem_of_getElem? eD4
                        have kd : ∀ b o, H4 b = some o → b ∉ al4 → upd H4 Dd (.lst (acc ++ [v])) b = some o ∧ b ∉ al4 := fun b o e m => ⟨kk b o (fun z => m (z ▸ hm)) e, m⟩
                        rw [← len1]
                        exact rs4.write eD4 kk ⟨_, upd_same, (racc.append (.one rw4)).stay kd⟩
                    | _ => cases qi
theorem s_cmprL (G : Good Y X n c Z) {m : Bool} {elt : Ex} {tg : Tn} {a : Ex} {cs : Eo} {own : List Nat} {ee et ei : Expr} {ifs : List Expr} {scope : Scope} (hi : PE X ei (tE Y X n Z a)) (hs : ∀ x, foldedSetIterable ei X.env x = pure x) (C : CmOk Y X n c elt tg cs own ee et ifs scope) :
    PE X (.ListComp ee [⟨et, ei, ifs, 0⟩] scope pos) (tE Y X n Z (.cmprL m elt tg a cs own)) := by
  have ok : BlkOk X.N X.env.scope scope (own.map fun i => (c.N.getD i "", i)) := by rw [G.names, G.sc]; exact blkOk_by C.blk
  have key := pe_lc (pos := pos) (wi := tIL Y X n Z false a) (g := gN Y X tg) (tt := tC Y X n (fun _ _ _ _ => False) cs) (te := tE Y X n (fun _ _ _ _ => False) elt) G.calm G.nd (l_seq hi) ok (fun s H C' cl fp => g_name (blk_good G ok.kind s H C' cl fp) C.tg) (fun s H C' cl fp => C.cs _ rfl rfl (blk_good G ok.kind s H C' cl fp)) (fun s H C' cl fp => C.elt _ rfl rfl (blk_good G ok.kind s H C' cl fp)) hs
  rw [own_map] at key
  exact PE.imp key (cmprL_read G C.own)
/-- name = [..], on the name's own row -/
theorem s_setLcL (G : Good Y X n c Z) {m : Bool} {elt : Ex} {tg : Tn} {a : Ex} {cs : Eo} {own : List Nat} {ee et ei : Expr} {ifs : List Expr} {scope : Scope} {i : Nat} {y : Str} {py spos : Pos} (hi : PE X ei (tE Y X n Z a)) (hs : ∀ x, foldedSetIterable ei X.env x = pure x) (C : CmOk Y X n c elt tg cs own ee et ifs scope)
    (hy : c.N[i]? = some y) (hl : c.sc.names.lookup y = some .local) (h1 : (py.line == pos.line) = true) (h2 : (scope.names.any fun q => q.1 == y && (q.2 == .local || q.2 == .cell)) = false) :
    PS X (.Assign [.Name y py] (.ListComp ee [⟨et, ei, ifs, 0⟩] scope pos) spos) (tAsg (tE Y X n Z (.cmprL m elt tg a cs own)) (gName i)) := by
  have ok : BlkOk X.N X.env.scope scope (own.map fun i => (c.N.getD i "", i)) := by rw [G.names, G.sc]; exact blkOk_by C.blk
  have hl' : X.env.scope.names.lookup y = some .local := by rw [G.sc]; exact hl
  have sw := sw_true (elt := ee) (gs := [⟨et, ei, ifs, 0⟩]) (l := spos.line) (env := X.env) (by rw [G.sc]; exact G.kind) hl' h1 h2
  have key := ps_setLc (spos := spos) (wi := tIL Y X n Z false a) (g := gN Y X tg) (tt := tC Y X n (fun _ _ _ _ => False) cs) (te := tE Y X n (fun _ _ _ _ => False) elt) G.calm G.nd (by rw [G.names]; exact hy) hl' sw (l_seq hi) ok (fun s H C' cl fp => g_name (blk_good G ok.kind s H C' cl fp) C.tg) (fun s H C' cl fp => C.cs _ rfl rfl (blk_good G ok.kind s H C' cl fp)) (fun s H C' cl fp => C.elt _ rfl rfl (blk_good G ok.kind s H C' cl fp)) hs
  rw [own_map] at key
  exact PS.imp key fun D σ H h => cmprL_read G C.own _ _ _ h
end
end Ev
end
section
/-! EvDG: the checker: core and syntax say the same. Own work. -/
set_option linter.all false
set_option autoImplicit false
set_option maxRecDepth 100000
set_option maxHeartbeats 1000000
namespace Ev
open PySem PySem.Spec PyProof.Rows L2

def plainIx : Expr → Bool
  | .Slice _ _ _ _ => false
  | _ => true
theorem plainIx_ok {e : Expr} (h : plainIx e = true) : PlainIx e := by
  intro o i
  cases e <;> first | rfl | cases h
def notSet : Expr → Bool
  | .Set _ _ _ => false
  | _ => true
theorem notSet_ok {e : Expr} (h : notSet e = true) {env : PySem.Env} : ∀ x, foldedSetIterable e env x = pure x := by
  intro x
  cases e <;> first | rfl | cases h
def isCall (x : Str) : Expr → Bool
  | .Name y _ => decide (y = x)
  | _ => false
/-- a built-in's name -/
def freOk (Y : Txt) (c : Sco) (x : Str) : Bool := decide (x ∈ Y.fre) && glB c.sc x
def biNm (b : Bi) : Option Str := match biF b, biT b with
  | some q, _ => some q.1
  | _, some q => some q.1
  | _, _ => none
mutual
def chkE (Y : Txt) : Ex → Sco → Expr → Bool
  | .var i, c, a => match a with
    | .Name x _ => decide (c.N[i]? = some x) && visB c.sc x
    | _ => false
  | .con d, c, a => match a with
    | .Constant k _ _ => conA d k
    | _ => false
  | .glo i, c, a => match a with
    | .Name x _ => decide (Y.gn[i]? = some x) && glB c.sc x
    | _ => false
  | .bin o a b, c, e => match e with
    | .BinOp l op r _ => decide (op = opA o) && chkE Y a c l && chkE Y b c r
    | _ => false
  | .neg a, c, e => match e with
    | .UnaryOp op x _ => decide (op = .USub) && chkE Y a c x
    | _ => false
  | .not a, c, e => match e with
    | .UnaryOp op x _ => decide (op = .Not) && chkE Y a c x
    | _ => false
  | .and a b, c, e => match e with
    | .BoolOp op (x :: y :: rest) pos => decide (op = .And) && chkE Y a c x && chkE Y b c (match rest with
      | [] => y
      | _ :: _ => .BoolOp .And (y :: rest) pos)
    | _ => false
  | .or a b, c, e => match e with
    | .BoolOp op (x :: y :: rest) pos => decide (op = .Or) && chkE Y a c x && chkE Y b c (match rest with
      | [] => y
      | _ :: _ => .BoolOp .Or (y :: rest) pos)
    | _ => false
  | .cmp o a b, c, e => match e with
    | .Compare l [op] [r] _ => decide (op = cOp o) && chkE Y a c l && chkE Y b c r && !behindInMarks (cOp o) r
    | _ => false
  | .chn o p a b d, c, e => match e with
    | .Compare l [op1, op2] [r1, r2] _ => decide (op1 = cOp o) && decide (op2 = cOp p) && chkE Y a c l && chkE Y b c r1 && chkE Y d c r2 && !lastMarks [cOp o, cOp p] [r1, r2]
    | _ => false
  | .ite d a b, c, e => match e with
    | .IfExp t x y _ => chkT Y d (chkE Y d) c t && chkE Y a c x && chkE Y b c y
    | _ => false
  | .lst m es, c, e => match e with
    | .List as _ => chkEs Y es c as && decide (lenEs es ≤ 4000)
    | _ => false
  | .tup es, c, e => match e with
    | .Tuple as _ _ => chkEs Y es c as && decide (lenEs es ≤ 4000)
    | _ => false
  | .idx a i, c, e => match e with
    | .Subscript l r _ => plainIx r && chkE Y a c l && chkE Y i c r
    | _ => false
  | .slc a lo hi, c, e => match e with
    | .Subscript l (.Slice x y none _) _ => chkE Y a c l && chkO Y lo c x && chkO Y hi c y
    | _ => false
  | .att a f, c, e => match e with
    | .Attribute l nm _ => chkE Y a c l && decide (Y.an[f]? = some nm) && baseOk l
    | _ => false
  | .call g es ks sp, c, e => match e with
    | .Call (.Name x _) args kws _ => (match Y.defs[g]? with
      | some d => (match d.at_ with
        | .glo y => decide (y = x)
        | _ => false) && spOk d (kwN kws) (lenEs es) sp
      | none => false) && glB c.sc x && chkEs Y es c args && chkKs Y ks c kws && args.all notStar && kwAll kws && decide ((kwN kws).length = lenEs ks)
    | _ => false
  | .make cc es ks sp, c, e => match e with
    | .Call (.Name x _) args kws _ => decide (Y.cn[cc]? = some x) && (match Y.T.cls[cc]? with
      | some k => (match Y.defs[k.init]? with
        | some d => spOk d (kwN kws) (lenEs es + 1) sp
        | none => false)
      | none => false) && glB c.sc x && chkEs Y es c args && chkKs Y ks c kws && args.all notStar && kwAll kws && decide ((kwN kws).length = lenEs ks)
    | _ => false
  | .meth a m es ks sp, c, e => match e with
    | .Call (.Attribute l nm ap) args kws pos => decide (Y.an[m]? = some nm) && baseOk l && mcOk args kws ap pos && chkE Y a c l && chkEs Y es c args && chkKs Y ks c kws && args.all notStar && kwAll kws && decide ((kwN kws).length = lenEs ks) &&
      (Y.T.cls.all fun k => match k.ms.lookup m with
        | some g => (match Y.defs[g]? with
          | some d => spOk d (kwN kws) (lenEs es + 1) sp
          | none => true)
        | none => true)
    | _ => false
  | .bi b es, c, e => match e with
    | .Call (.Name x _) (a :: as) [] _ => decide (biNm b = some x) && freOk Y c x && chkEs Y es c (a :: as) && (a :: as).all notStar
    | _ => false
  | .bm m a es, c, e => match e with
    | .Call (.Attribute l nm ap) (x :: as) [] pos => decide (nm = bmN m) && baseOk l && chkE Y a c l && chkEs Y es c (x :: as) && (x :: as).all notStar && decide ((x :: as).length < 29) && (ap.endLine == pos.line)
    | _ => false
  | .mu m a es, c, e => match e with
    | .Call (.Attribute l nm ap) as [] pos => decide (nm = muN m) && baseOk l && chkE Y a c l && chkEs Y es c as && as.all notStar && decide (as.length < 29) && (ap.endLine == pos.line)
    | _ => false
  | .isi a ks, c, e => match e with
    | .Call (.Name x _) [l, k] [] _ => decide (x = "isinstance") && freOk Y c x && chkE Y a c l && notStar l && (match k with
      | .Tuple es _ _ => decide (ks.length = es.length) && decide (ks.length ≤ 4000) && (ks.zip es).all fun q => chkKi Y c q.1 q.2
      | k => (match ks with
        | [ki] => chkKi Y c ki k
        | _ => false))
    | _ => false
  | .lof _ it, c, e => match e with
    | .Call (.Name x _) [r] [] _ => decide (x = "list") && freOk Y c x && notStar r && (isRg it || isRg3 it) && chkI Y it c r r
    | _ => false
  | .thaw a, c, e => match e with
    | .Call (.Name x _) [r] [] _ => decide (x = "list") && freOk Y c x && notStar r && chkE Y a c r
    | _ => false
  | .rev a, c, e => match e with
    | .Subscript l (.Slice none none (some (.UnaryOp op (.Constant (.int j) _ _) _)) _) _ => decide (op = .USub) && decide (j = 1) && chkE Y a c l
    | _ => false
  | .addL a b, c, e => match e with
    | .BinOp l op r _ => decide (op = .Add) && chkE Y a c l && chkE Y b c r
    | _ => false
  | .dsp m ks es, c, e => match e with
    | .Dict keys vals _ => nodupK ks && chkKeys ks keys && chkEs Y es c vals && decide (keys.length = vals.length) && decide (keys.length ≤ 15)
    | _ => false
  | .dcp a, c, e => match e with
    | .Call (.Name x _) [.Call (.Name y _) [.Call (.Attribute l nm ap) [] [] cp] [] _] [] _ => decide (x = "dict") && decide (y = "list") && decide (nm = "items") && freOk Y c x && freOk Y c y && chkE Y a c l && baseOk l && (ap.endLine == cp.line)
    | _ => false
  | .cmpr m elt tg it cs own, c, e => match e with
    | .ListComp ee [⟨et, ei, ifs, 0⟩] scope _ => chkI Y it c et ei && notSet ei && blkC c.N c.sc scope (own.map fun i => (c.N.getD i "", i)) && ((slotsN tg).all fun i => own.contains i) && chkN (c.blk scope) tg et && chkC Y cs (c.blk scope) ifs && chkE Y elt (c.blk scope) ee
    | _ => false
  | .cmprL m elt tg a cs own, c, e => match e with
    | .ListComp ee [⟨et, ei, ifs, 0⟩] scope _ => chkE Y a c ei && notSet ei && blkC c.N c.sc scope (own.map fun i => (c.N.getD i "", i)) && ((slotsN tg).all fun i => own.contains i) && chkN (c.blk scope) tg et && chkC Y cs (c.blk scope) ifs && chkE Y elt (c.blk scope) ee
    | _ => false
  | .fst ps, c, e => match e with
    | .JoinedStr (v :: vs) _ => chkEs Y ps c (v :: vs)
    | _ => false
  | .fmt a, c, e => match e with
    | .FormattedValue x k none _ => decide (k = -1) && chkE Y a c x
    | _ => false
  | .fmr a, c, e => match e with
    | .FormattedValue x k none _ => decide (k = 114) && chkE Y a c x
    | _ => false
  | .frz a, c, e => chkE Y a c e
  | .lenO a m, c, e => match e with
    | .Call (.Name x _) [l] [] _ => decide (x = "len") && freOk Y c x && notStar l && chkE Y a c l && decide (Y.an[m]? = some "__len__") && msOk Y m 1
    | _ => false
  | .callO a m b, c, e => match e with
    | .Call (.Name x p) [r] [] _ => chkE Y a c (.Name x p) && chkE Y b c r && notStar r && decide (Y.an[m]? = some "__call__") && msOk Y m 2
    | _ => false
def chkT (Y : Txt) : Ex → (Sco → Expr → Bool) → Sco → Expr → Bool
  | .not a, _, c, e => match e with
    | .UnaryOp op x _ => decide (op = .Not) && chkT Y a (chkE Y a) c x
    | _ => false
  | .and a b, _, c, e => match e with
    | .BoolOp op (x :: y :: rest) pos => decide (op = .And) && chkT Y a (chkE Y a) c x && chkT Y b (chkE Y b) c (match rest with
      | [] => y
      | _ :: _ => .BoolOp .And (y :: rest) pos)
    | _ => false
  | .or a b, _, c, e => match e with
    | .BoolOp op (x :: y :: rest) pos => decide (op = .Or) && chkT Y a (chkE Y a) c x && chkT Y b (chkE Y b) c (match rest with
      | [] => y
      | _ :: _ => .BoolOp .Or (y :: rest) pos)
    | _ => false
  | .ite _ _ _, _, _, _ => false
  | .cmp _ _ _, wh, c, e => wh c e
  | .chn _ _ _ _ _, wh, c, e => wh c e
  | _, wh, c, e => wh c e && leafA e
def chkEs (Y : Txt) : Exs → Sco → List Expr → Bool
  | .nil, _, es => es.isEmpty
  | .cons k ks, c, es => match es with
    | e :: es => notStar e && chkE Y k c e && chkEs Y ks c es
    | [] => false
def chkKs (Y : Txt) : Exs → Sco → List Keyword → Bool
  | .nil, _, es => es.isEmpty
  | .cons k ks, c, es => match es with
    | ⟨_, e, _⟩ :: es => chkE Y k c e && chkKs Y ks c es
    | [] => false
def chkO (Y : Txt) : Eo → Sco → Option Expr → Bool
  | .no, _, o => o.isNone
  | .so k, c, o => match o with
    | some e => chkE Y k c e
    | none => false
def chkC (Y : Txt) : Eo → Sco → List Expr → Bool
  | .no, _, o => o.isEmpty
  | .so k, c, o => match o with
    | [e] => chkT Y k (chkE Y k) c e
    | _ => false
def chkI (Y : Txt) : It → Sco → Expr → Expr → Bool
  | .seq a, c, _, e => chkE Y a c e
  | .rng1 a, c, _, e => match e with
    | .Call (.Name x _) [l] [] _ => decide (x = "range") && freOk Y c x && chkE Y a c l && notStar l
    | _ => false
  | .rng2 a b, c, _, e => match e with
    | .Call (.Name x _) [l, r] [] _ => decide (x = "range") && freOk Y c x && chkE Y a c l && chkE Y b c r && notStar l && notStar r
    | _ => false
  | .rngB a b, c, _, e => match e with
    | .Call (.Name x _) [l, r] [] _ => decide (x = "range") && freOk Y c x && chkE Y a c l && chkE Y b c r && notStar l && notStar r
    | _ => false
  | .rng3 a b k, c, _, e => match e with
    | .Call (.Name x _) [l, m, r] [] _ => decide (x = "range") && freOk Y c x && chkE Y a c l && chkE Y b c m && chkE Y k c r && notStar l && notStar m && notStar r
    | _ => false
  | .enu a, c, t, e => match t, e with
    | .Tuple _ _ _, .Call (.Name x _) [l] [] _ => decide (x = "enumerate") && freOk Y c x && chkE Y a c l && notStar l
    | _, _ => false
  | .zip a b, c, t, e => match t, e with
    | .Tuple _ _ _, .Call (.Name x _) [l, r] [] _ => decide (x = "zip") && freOk Y c x && chkE Y a c l && chkE Y b c r && notStar l && notStar r
    | _, _ => false
end
section
variable {Y : Txt} {n : Nat}
theorem fre_of {c : Sco} {x : Str} (h : freOk Y c x = true) : x ∈ Y.fre ∧ glB c.sc x = true := by
  simp only [freOk, Bool.and_eq_true, decide_eq_true_eq] at h
  exact h
theorem t_cmp {X : Cx} {c : Sco} {Z : WX} {pos : Pos} (G : Good Y X n c Z) {o : COp} {a b : Ex} {ea eb : Expr} (ha : PE X ea (tE Y X n Z a)) (hb : PE X eb (tE Y X n Z b)) (hm : behindInMarks (cOp o) eb = false) : PT X (.Compare ea [cOp o] [eb] pos) (tT Y X n Z (.cmp o a b)) := by
  refine ⟨fun pins s σ H Q I h => (pt_cmpR (pos := pos) (or_cmpW G (E := AtX Z σ) o) ha hb hm).run pins s σ H Q I ?_⟩
  obtain ⟨env, S, al, re, rs, h⟩ := h
  have h' : Runs (Y.lay X.K X.w) al.length H al (fun _ _ a b => a = b) (((evE Y.T (callD Y.T n) a env S).bind fun x S1 => (evE Y.T (callD Y.T n) b env S1).bind fun y S2 => cmpW Y.T (callD Y.T n) o x y S2).bind fun x S1 => R.of ((rd S1 x).bind truth) S1) Q (AtX Z σ) := h
  rw [R.bind_assoc] at h'
  refine ⟨env, S, al, re, rs, h'.bind fun x S1 u H1 al1 _ st rs1 rx h1 => ?_⟩
  rw [R.bind_assoc] at h1
  refine ⟨env, S1, al1, re.step st (Nat.le_refl _), rs1, h1.bind fun y S2 v H2 al2 _ st2 rs2 ry h2 => ?_⟩
  refine ⟨x, y, S2, al2, rs2, rx.step st2 (Nat.le_refl _), ry, h2.bind fun r S3 z H3 al3 e3 st3 rs3 rz h3 => ?_⟩
  exact truth_bl h3 rz (cmpW_bl G e3) (Nat.le_refl _) rs3
theorem t_chn {X : Cx} {c : Sco} {Z : WX} {pos : Pos} (G : Good Y X n c Z) {o p : COp} {a b d : Ex} {ea eb ed : Expr} (ha : PE X ea (tE Y X n Z a)) (hb : PE X eb (tE Y X n Z b)) (hd : PE X ed (tE Y X n Z d)) (hm : lastMarks [cOp o, cOp p] [eb, ed] = false) :
    PT X (.Compare ea [cOp o, cOp p] [eb, ed] pos) (tT Y X n Z (.chn o p a b d)) := by
  refine ⟨fun pins s σ H Q I h => (pt_chain (pos := pos) (or_cmpW G (E := AtX Z σ) o) (or_cmpW G (E := AtX Z σ) p) ha hb hd hm).run pins s σ H Q I ?_⟩
  obtain ⟨env, S, al, re, rs, h⟩ := h
  have h' : Runs (Y.lay X.K X.w) al.length H al (fun _ _ a b => a = b) (((evE Y.T (callD Y.T n) a env S).bind fun x S1 => (evE Y.T (callD Y.T n) b env S1).bind fun y S2 => (cmpW Y.T (callD Y.T n) o x y S2).bind fun r S3 => (asBl r S3).bind fun k S4 =>
      if k then (evE Y.T (callD Y.T n) d env S4).bind fun z S5 => cmpW Y.T (callD Y.T n) p y z S5 else .ok (.d (.bl false)) S4).bind fun x S1 => R.of ((rd S1 x).bind truth) S1) Q (AtX Z σ) := h
  rw [R.bind_assoc] at h'
  refine ⟨env, S, al, re, rs, h'.bind fun x S1 u H1 al1 _ st rs1 rx h1 => ?_⟩
  rw [R.bind_assoc] at h1
  refine ⟨env, S1, al1, re.step st (Nat.le_refl _), rs1, h1.bind fun y S2 v H2 al2 _ st2 rs2 ry h2 => ?_⟩
  rw [R.bind_assoc] at h2
  refine ⟨x, y, S2, al2, rs2, rx.step st2 (Nat.le_refl _), ry, h2.bind fun r S3 z H3 al3 e3 st3 rs3 rz h3 => ?_⟩
  rw [R.bind_assoc] at h3
  obtain ⟨k, rfl, h4⟩ := asBl_of h3 rz
  refine ⟨k, rfl, ?_⟩
  cases k with
  | true =>
    have h5 : Runs (Y.lay X.K X.w) al3.length H3 al3 (fun _ _ a b => a = b) (((evE Y.T (callD Y.T n) d env S3).bind fun z S5 => cmpW Y.T (callD Y.T n) p y z S5).bind fun x S1 => R.of ((rd S1 x).bind truth) S1) Q (AtX Z σ) := h4
    rw [R.bind_assoc] at h5
    refine ⟨env, S3, al3, ((re.step st (Nat.le_refl _)).step st2 (Nat.le_refl _)).step st3 (Nat.le_refl _), rs3, h5.bind fun w S5 t H4 al4 _ st4 rs4 rw_ h6 => ?_⟩
    refine ⟨y, w, S5, al4, rs4, (ry.step st3 (Nat.le_refl _)).step st4 (Nat.le_refl _), rw_, h6.bind fun r S6 z H6 al6 e6 st6 rs6 rz6 h7 => ?_⟩
    exact truth_bl h7 rz6 (cmpW_bl G e6) (Nat.le_refl _) rs6
  | false => exact ⟨false, rfl, Runs.here (Rq := fun _ _ (a b : Bool) => a = b) (show Runs (Y.lay X.K X.w) _ H3 al3 _ (.ok false S3) Q _ from h4) (Nat.le_refl _) rs3 rfl⟩
theorem es_nil {Y : Txt} {es : Exs} {c : Sco} {as : List Expr} (h : chkEs Y es c as = true) : as = [] → es = .nil := by
  rintro rfl
  cases es with
  | nil => rfl
  | cons k ks => rw [chkEs] at h; cases h
end
end Ev
end
section
/-! EvDH: what is checked is true: expressions. Own work. -/
set_option linter.all false
set_option autoImplicit false
set_option maxRecDepth 100000
set_option maxHeartbeats 2000000
namespace Ev
open PySem PySem.Spec PyProof.Rows L2
variable {Y : Txt} {n : Nat}
theorem leaf_c {e : Expr} : leafA e = true → True := fun _ => trivial
mutual
theorem soE : ∀ (e : Ex) {X : Cx} {c : Sco} {Z : WX} {a : Expr}, Good Y X n c Z → chkE Y e c a = true → PE X a (tE Y X n Z e)
  | .var i, X, c, Z, a, G, h => by
    unfold chkE at h
    split at h
    · simp only [Bool.and_eq_true, decide_eq_true_eq] at h
      exact s_var G h.1 h.2
    · cases h
  | .con d, X, c, Z, a, G, h => by
    unfold chkE at h
    split at h
    · exact s_con h
    · cases h
  | .glo i, X, c, Z, a, G, h => by
    unfold chkE at h
    split at h
    · simp only [Bool.and_eq_true, decide_eq_true_eq] at h
      exact s_glo G h.1 h.2
    · cases h
  | .bin o a b, X, c, Z, e, G, h => by
    unfold chkE at h
    split at h
    · simp only [Bool.and_eq_true, decide_eq_true_eq] at h
      obtain ⟨⟨rfl, h1⟩, h2⟩ := h
      exact s_bin G (soE a G h1) (soE b G h2)
    · cases h
  | .neg a, X, c, Z, e, G, h => by
    unfold chkE at h
    split at h
    · simp only [Bool.and_eq_true, decide_eq_true_eq] at h
      obtain ⟨rfl, h1⟩ := h
      exact s_neg (soE a G h1)
    · cases h
  | .not a, X, c, Z, e, G, h => by
    unfold chkE at h
    split at h
    · simp only [Bool.and_eq_true, decide_eq_true_eq] at h
      obtain ⟨rfl, h1⟩ := h
      exact s_not (soE a G h1)
    · cases h
  | .and a b, X, c, Z, e, G, h => by
    unfold chkE at h
    split at h
    · rename_i op x y rest pos
      simp only [Bool.and_eq_true, decide_eq_true_eq] at h
      obtain ⟨⟨rfl, h1⟩, h2⟩ := h
      refine s_and (soE a G h1) ?_
      cases rest with
      | nil => exact pe_one (soE b G h2)
      | cons z zs => exact soE b G h2
    · cases h
  | .or a b, X, c, Z, e, G, h => by
    unfold chkE at h
    split at h
    · rename_i op x y rest pos
      simp only [Bool.and_eq_true, decide_eq_true_eq] at h
      obtain ⟨⟨rfl, h1⟩, h2⟩ := h
      refine s_or (soE a G h1) ?_
      cases rest with
      | nil => exact pe_one (soE b G h2)
      | cons z zs => exact soE b G h2
    · cases h
  | .cmp o a b, X, c, Z, e, G, h => by
    unfold chkE at h
    split at h
    · simp only [Bool.and_eq_true, decide_eq_true_eq, Bool.not_eq_true'] at h
      obtain ⟨⟨⟨rfl, h1⟩, h2⟩, h3⟩ := h
      exact s_cmp G (soE a G h1) (soE b G h2) h3
    · cases h
  | .chn o p a b d, X, c, Z, e, G, h => by
    unfold chkE at h
    split at h
    · simp only [Bool.and_eq_true, decide_eq_true_eq, Bool.not_eq_true'] at h
      obtain ⟨⟨⟨⟨⟨rfl, rfl⟩, h1⟩, h2⟩, h3⟩, h4⟩ := h
      exact s_chn G (soE a G h1) (soE b G h2) (soE d G h3) h4
    · cases h
  | .ite d a b, X, c, Z, e, G, h => by
    unfold chkE at h
    split at h
    · simp only [Bool.and_eq_true] at h
      exact s_ite (soT d G h.1.1) (soE a G h.1.2) (soE b G h.2)
    · cases h
  | .lst m es, X, c, Z, e, G, h => by
    unfold chkE at h
    split at h
    · simp only [Bool.and_eq_true, decide_eq_true_eq] at h
      exact s_lst (soEs es G h.1) h.2
    · cases h
  | .tup es, X, c, Z, e, G, h => by
    unfold chkE at h
    split at h
    · simp only [Bool.and_eq_true, decide_eq_true_eq] at h
      exact s_tup (soEs es G h.1) h.2
    · cases h
  | .idx a i, X, c, Z, e, G, h => by
    unfold chkE at h
    split at h
    · simp only [Bool.and_eq_true] at h
      exact s_idx G (soE a G h.1.2) (soE i G h.2) (plainIx_ok h.1.1)
    · cases h
  | .slc a lo hi, X, c, Z, e, G, h => by
    unfold chkE at h
    split at h
    · simp only [Bool.and_eq_true] at h
      exact s_slc (soE a G h.1.1) (soO lo G h.1.2) (soO hi G h.2)
    · cases h
  | .att a f, X, c, Z, e, G, h => by
    unfold chkE at h
    split at h
    · simp only [Bool.and_eq_true, decide_eq_true_eq] at h
      exact s_att G (soE a G h.1.1) h.1.2 h.2
    · cases h
  | .call g es ks sp, X, c, Z, e, G, h => by
    unfold chkE at h
    split at h
    · simp only [Bool.and_eq_true, decide_eq_true_eq] at h
      obtain ⟨⟨⟨⟨⟨⟨h0, h1⟩, h2⟩, h3⟩, h4⟩, h5⟩, h6⟩ := h
      split at h0
      · rename_i d hd
        simp only [Bool.and_eq_true] at h0
        obtain ⟨h7, h8⟩ := h0
        split at h7
        · rename_i y hy
          rw [of_decide_eq_true h7] at hy
          exact s_call G hd hy h1 (soEs es G h2) (soKs ks G h3) (es_nil h2) h4 h5 h6 h8
        · cases h7
      · cases h0
    · cases h
  | .make cc es ks sp, X, c, Z, e, G, h => by
    unfold chkE at h
    split at h
    · simp only [Bool.and_eq_true, decide_eq_true_eq] at h
      obtain ⟨⟨⟨⟨⟨⟨⟨h7, h0⟩, h1⟩, h2⟩, h3⟩, h4⟩, h5⟩, h6⟩ := h
      split at h0
      · rename_i k hk
        split at h0
        · rename_i d hd
          exact s_make G hk h7 hd h1 (soEs es G h2) (soKs ks G h3) (es_nil h2) h4 h5 h6 h0
        · cases h0
      · cases h0
    · cases h
  | .meth a m es ks sp, X, c, Z, e, G, h => by
    unfold chkE at h
    split at h
    · simp only [Bool.and_eq_true, decide_eq_true_eq, List.all_eq_true] at h
      obtain ⟨⟨⟨⟨⟨⟨⟨⟨⟨h1, h2⟩, h3⟩, h4⟩, h5⟩, h6⟩, h7⟩, h8⟩, h9⟩, h10⟩ := h
      refine s_meth G (soE a G h4) h1 h2 h3 (soEs es G h5) (soKs ks G h6) (es_nil h5) (List.all_eq_true.mpr h7) h8 h9 fun k hk g hg d hd => ?_
      have := h10 k hk
      rw [hg] at this
      simp only [hd] at this
      exact this
    · cases h
  | .bi b es, X, c, Z, e, G, h => by
    unfold chkE at h
    split at h
    · rename_i x px a0 as0 p0
      simp only [Bool.and_eq_true, decide_eq_true_eq] at h
      obtain ⟨⟨⟨h1, h2⟩, h3⟩, h4⟩ := h
      obtain ⟨f1, f2⟩ := fre_of h2
      by_cases b1 : b = .repr
      · subst b1
        have e : ("repr" : Str) = x := by simpa [biNm, biF] using h1
        subst e
        exact s_repr G f1 f2 (soEs es G h3) h4
      by_cases b2 : b = .str
      · subst b2
        have e : ("str" : Str) = x := by simpa [biNm, biF, biT] using h1
        subst e
        exact s_strc G f1 f2 (soEs es G h3) h4
      cases q : biF b with
      | some r =>
        have e : r.1 = x := by simpa [biNm, q] using h1
        exact s_biF G b1 (id := r.2) (by rw [q, ← e]) f1 f2 (soEs es G h3) h4
      | none =>
        cases q2 : biT b with
        | some r =>
          have e : r.1 = x := by simpa [biNm, q, q2] using h1
          exact s_biT G b2 (id := r.2) (by rw [q2, ← e]) f1 f2 (soEs es G h3) h4
        | none => simp [biNm, q, q2] at h1
    · cases h
  | .bm m a es, X, c, Z, e, G, h => by
    unfold chkE at h
    split at h
    · simp only [Bool.and_eq_true, decide_eq_true_eq] at h
      obtain ⟨⟨⟨⟨⟨⟨rfl, h2⟩, h3⟩, h4⟩, h5⟩, h6⟩, h7⟩ := h
      exact s_bm G (soE a G h3) (soEs es G h4) h2 h5 h6 h7
    · cases h
  | .mu m a es, X, c, Z, e, G, h => by
    unfold chkE at h
    split at h
    · rename_i l nm ap as pos
      simp only [Bool.and_eq_true, decide_eq_true_eq] at h
      obtain ⟨⟨⟨⟨⟨⟨rfl, h2⟩, h3⟩, h4⟩, h5⟩, h6⟩, h7⟩ := h
      cases as with
      | nil =>
        have e := es_nil h4 rfl
        subst e
        exact s_mu0 (soE a G h3) h2 h7
      | cons x xs => exact s_mu (soE a G h3) (soEs es G h4) h2 h5 h6 h7
    · cases h
  | .isi a ks, X, c, Z, e, G, h => by
    unfold chkE at h
    split at h
    · simp only [Bool.and_eq_true, decide_eq_true_eq] at h
      obtain ⟨⟨⟨⟨rfl, h2⟩, h3⟩, h4⟩, h5⟩ := h
      obtain ⟨f1, f2⟩ := fre_of h2
      split at h5
      · simp only [Bool.and_eq_true, decide_eq_true_eq, List.all_eq_true] at h5
        exact s_isiT G f1 f2 (soE a G h3) h4 h5.1.1 h5.1.2 h5.2
      · split at h5
        · exact s_isi1 G f1 f2 (soE a G h3) h4 h5
        · cases h5
    · cases h
  | .lof _ it, X, c, Z, e, G, h => by
    unfold chkE at h
    split at h
    · simp only [Bool.and_eq_true, decide_eq_true_eq] at h
      obtain ⟨⟨⟨⟨rfl, h2⟩, h3⟩, h4⟩, h5⟩ := h
      rcases (Bool.or_eq_true_iff).mp h4 with h4 | h4
      · exact s_lof G (fre_of h2).1 (fre_of h2).2 (soRg it G h4 h5) h3
      · exact soRg3 it G h4 h5 (fre_of h2).1 (fre_of h2).2
    · cases h
  | .thaw a, X, c, Z, e, G, h => by
    unfold chkE at h
    split at h
    · simp only [Bool.and_eq_true, decide_eq_true_eq] at h
      obtain ⟨⟨⟨rfl, h2⟩, h3⟩, h4⟩ := h
      exact s_thaw G (fre_of h2).1 (fre_of h2).2 (soE a G h4) h3
    · cases h
  | .rev a, X, c, Z, e, G, h => by
    unfold chkE at h
    split at h
    · simp only [Bool.and_eq_true, decide_eq_true_eq] at h
      obtain ⟨⟨rfl, rfl⟩, h1⟩ := h
      exact s_rev (soE a G h1)
    · cases h
  | .addL a b, X, c, Z, e, G, h => by
    unfold chkE at h
    split at h
    · simp only [Bool.and_eq_true, decide_eq_true_eq] at h
      obtain ⟨⟨rfl, h1⟩, h2⟩ := h
      exact s_addL (soE a G h1) (soE b G h2)
    · cases h
  | .dsp m ks es, X, c, Z, e, G, h => by
    unfold chkE at h
    split at h
    · rename_i keys vals p0
      simp only [Bool.and_eq_true, decide_eq_true_eq] at h
      obtain ⟨⟨⟨⟨h1, h2⟩, h3⟩, h4⟩, h5⟩ := h
      cases keys with
      | nil =>
        cases vals with
        | cons _ _ => simp at h4
        | nil =>
          have e1 := es_nil h3 rfl
          subst e1
          have e2 := (keys_of h2).2
          have e3 : ks = [] := List.eq_nil_of_length_eq_zero e2.symm
          subst e3
          exact s_dnew
      | cons k r => exact s_dsp h1 h2 (soJ es G h3) h4 (by simp) h5
    · cases h
  | .dcp a, X, c, Z, e, G, h => by
    unfold chkE at h
    split at h
    · simp only [Bool.and_eq_true, decide_eq_true_eq] at h
      obtain ⟨⟨⟨⟨⟨⟨⟨rfl, rfl⟩, rfl⟩, h4⟩, h5⟩, h6⟩, h7⟩, h8⟩ := h
      exact s_dcp G (fre_of h5).1 (fre_of h5).2 (fre_of h4).1 (fre_of h4).2 (soE a G h6) h7 h8
    · cases h
  | .cmpr m elt tg it cs own, X, c, Z, e, G, h => by
    unfold chkE at h
    split at h
    · simp only [Bool.and_eq_true, List.all_eq_true] at h
      obtain ⟨⟨⟨⟨⟨⟨h1, h2⟩, h3⟩, h4⟩, h5⟩, h6⟩, h7⟩ := h
      exact s_cmpr G (soI it G h1) (notSet_ok h2) ⟨h3, fun i hi => List.contains_iff_mem.mp (h4 i hi), h5, fun X' _ _ G' => soC cs G' h6, fun X' _ _ G' => soE elt G' h7⟩
    · cases h
  | .cmprL m elt tg a cs own, X, c, Z, e, G, h => by
    unfold chkE at h
    split at h
    · simp only [Bool.and_eq_true, List.all_eq_true] at h
      obtain ⟨⟨⟨⟨⟨⟨h1, h2⟩, h3⟩, h4⟩, h5⟩, h6⟩, h7⟩ := h
      exact s_cmprL G (soE a G h1) (notSet_ok h2) ⟨h3, fun i hi => List.contains_iff_mem.mp (h4 i hi), h5, fun X' _ _ G' => soC cs G' h6, fun X' _ _ G' => soE elt G' h7⟩
    · cases h
  | .fst ps, X, c, Z, e, G, h => by
    unfold chkE at h
    split at h
    · rename_i v vs pos
      have P := soJ ps G h
      cases vs with
      | nil =>
        cases P with
        | cons p r =>
          cases r
          exact s_fst1 p
      | cons v2 vs => exact s_fst P
    · cases h
  | .fmt a, X, c, Z, e, G, h => by
    unfold chkE at h
    split at h
    · simp only [Bool.and_eq_true, decide_eq_true_eq] at h
      obtain ⟨rfl, h1⟩ := h
      exact s_fmt (soE a G h1)
    · cases h
  | .fmr a, X, c, Z, e, G, h => by
    unfold chkE at h
    split at h
    · simp only [Bool.and_eq_true, decide_eq_true_eq] at h
      obtain ⟨rfl, h1⟩ := h
      exact s_fmr G (soE a G h1)
    · cases h
  | .frz a, X, c, Z, e, G, h => by
    unfold chkE at h
    exact s_frz (soE a G h)
  | .lenO a m, X, c, Z, e, G, h => by
    unfold chkE at h
    split at h
    · simp only [Bool.and_eq_true, decide_eq_true_eq] at h
      obtain ⟨⟨⟨⟨⟨rfl, h2⟩, h3⟩, h4⟩, h5⟩, h6⟩ := h
      exact s_lenO G (fre_of h2).1 (fre_of h2).2 (soE a G h4) h3 h5 h6
    · cases h
  | .callO a m b, X, c, Z, e, G, h => by
    unfold chkE at h
    split at h
    · simp only [Bool.and_eq_true, decide_eq_true_eq] at h
      obtain ⟨⟨⟨⟨h1, h2⟩, h3⟩, h4⟩, h5⟩ := h
      exact s_callO G (soE a G h1) (soE b G h2) h3 h4 h5
    · cases h
theorem soT : ∀ (e : Ex) {X : Cx} {c : Sco} {Z : WX} {a : Expr}, Good Y X n c Z → chkT Y e (chkE Y e) c a = true → PT X a (tT Y X n Z e)
  | .not a, X, c, Z, e, G, h => by
    unfold chkT at h
    split at h
    · simp only [Bool.and_eq_true, decide_eq_true_eq] at h
      obtain ⟨rfl, h1⟩ := h
      exact t_not (soT a G h1)
    · cases h
  | .and a b, X, c, Z, e, G, h => by
    unfold chkT at h
    split at h
    · rename_i op x y rest pos
      simp only [Bool.and_eq_true, decide_eq_true_eq] at h
      obtain ⟨⟨rfl, h1⟩, h2⟩ := h
      refine t_and (soT a G h1) ?_
      cases rest with
      | nil => exact t_one (soT b G h2)
      | cons z zs => exact soT b G h2
    · cases h
  | .or a b, X, c, Z, e, G, h => by
    unfold chkT at h
    split at h
    · rename_i op x y rest pos
      simp only [Bool.and_eq_true, decide_eq_true_eq] at h
      obtain ⟨⟨rfl, h1⟩, h2⟩ := h
      refine t_or (soT a G h1) ?_
      cases rest with
      | nil => exact t_one (soT b G h2)
      | cons z zs => exact soT b G h2
    · cases h
  | .ite _ _ _, X, c, Z, e, G, h => by unfold chkT at h; cases h
  | .cmp o a b, X, c, Z, e, G, h => by
    unfold chkT at h
    unfold chkE at h
    split at h
    · simp only [Bool.and_eq_true, decide_eq_true_eq, Bool.not_eq_true'] at h
      obtain ⟨⟨⟨rfl, h1⟩, h2⟩, h3⟩ := h
      exact t_cmp G (soE a G h1) (soE b G h2) h3
    · cases h
  | .chn o p a b d, X, c, Z, e, G, h => by
    unfold chkT at h
    unfold chkE at h
    split at h
    · simp only [Bool.and_eq_true, decide_eq_true_eq, Bool.not_eq_true'] at h
      obtain ⟨⟨⟨⟨⟨rfl, rfl⟩, h1⟩, h2⟩, h3⟩, h4⟩ := h
      exact t_chn G (soE a G h1) (soE b G h2) (soE d G h3) h4
    · cases h
  | .var i, X, c, Z, e, G, h => by
    have h' : (chkE Y (.var i) c e && leafA e) = true := h
    simp only [Bool.and_eq_true] at h'
    exact t_val G (soE (.var i) G h'.1) rfl h'.2
  | .con d, X, c, Z, e, G, h => by
    have h' : (chkE Y (.con d) c e && leafA e) = true := h
    simp only [Bool.and_eq_true] at h'
    exact t_val G (soE (.con d) G h'.1) rfl h'.2
  | .glo i, X, c, Z, e, G, h => by
    have h' : (chkE Y (.glo i) c e && leafA e) = true := h
    simp only [Bool.and_eq_true] at h'
    exact t_val G (soE (.glo i) G h'.1) rfl h'.2
  | .bin o a b, X, c, Z, e, G, h => by
    have h' : (chkE Y (.bin o a b) c e && leafA e) = true := h
    simp only [Bool.and_eq_true] at h'
    exact t_val G (soE (.bin o a b) G h'.1) rfl h'.2
  | .neg a, X, c, Z, e, G, h => by
    have h' : (chkE Y (.neg a) c e && leafA e) = true := h
    simp only [Bool.and_eq_true] at h'
    exact t_val G (soE (.neg a) G h'.1) rfl h'.2
  | .lst m es, X, c, Z, e, G, h => by
    have h' : (chkE Y (.lst m es) c e && leafA e) = true := h
    simp only [Bool.and_eq_true] at h'
    exact t_val G (soE (.lst m es) G h'.1) rfl h'.2
  | .tup es, X, c, Z, e, G, h => by
    have h' : (chkE Y (.tup es) c e && leafA e) = true := h
    simp only [Bool.and_eq_true] at h'
    exact t_val G (soE (.tup es) G h'.1) rfl h'.2
  | .idx a i, X, c, Z, e, G, h => by
    have h' : (chkE Y (.idx a i) c e && leafA e) = true := h
    simp only [Bool.and_eq_true] at h'
    exact t_val G (soE (.idx a i) G h'.1) rfl h'.2
  | .slc a lo hi, X, c, Z, e, G, h => by
    have h' : (chkE Y (.slc a lo hi) c e && leafA e) = true := h
    simp only [Bool.and_eq_true] at h'
    exact t_val G (soE (.slc a lo hi) G h'.1) rfl h'.2
  | .att a f, X, c, Z, e, G, h => by
    have h' : (chkE Y (.att a f) c e && leafA e) = true := h
    simp only [Bool.and_eq_true] at h'
    exact t_val G (soE (.att a f) G h'.1) rfl h'.2
  | .call g es ks sp, X, c, Z, e, G, h => by
    have h' : (chkE Y (.call g es ks sp) c e && leafA e) = true := h
    simp only [Bool.and_eq_true] at h'
    exact t_val G (soE (.call g es ks sp) G h'.1) rfl h'.2
  | .make g es ks sp, X, c, Z, e, G, h => by
    have h' : (chkE Y (.make g es ks sp) c e && leafA e) = true := h
    simp only [Bool.and_eq_true] at h'
    exact t_val G (soE (.make g es ks sp) G h'.1) rfl h'.2
  | .meth a m es ks sp, X, c, Z, e, G, h => by
    have h' : (chkE Y (.meth a m es ks sp) c e && leafA e) = true := h
    simp only [Bool.and_eq_true] at h'
    exact t_val G (soE (.meth a m es ks sp) G h'.1) rfl h'.2
  | .bi b es, X, c, Z, e, G, h => by
    have h' : (chkE Y (.bi b es) c e && leafA e) = true := h
    simp only [Bool.and_eq_true] at h'
    exact t_val G (soE (.bi b es) G h'.1) rfl h'.2
  | .bm m a es, X, c, Z, e, G, h => by
    have h' : (chkE Y (.bm m a es) c e && leafA e) = true := h
    simp only [Bool.and_eq_true] at h'
    exact t_val G (soE (.bm m a es) G h'.1) rfl h'.2
  | .mu m a es, X, c, Z, e, G, h => by
    have h' : (chkE Y (.mu m a es) c e && leafA e) = true := h
    simp only [Bool.and_eq_true] at h'
    exact t_val G (soE (.mu m a es) G h'.1) rfl h'.2
  | .isi a ks, X, c, Z, e, G, h => by
    have h' : (chkE Y (.isi a ks) c e && leafA e) = true := h
    simp only [Bool.and_eq_true] at h'
    exact t_val G (soE (.isi a ks) G h'.1) rfl h'.2
  | .thaw a, X, c, Z, e, G, h => by
    have h' : (chkE Y (.thaw a) c e && leafA e) = true := h
    simp only [Bool.and_eq_true] at h'
    exact t_val G (soE (.thaw a) G h'.1) rfl h'.2
  | .lof m it, X, c, Z, e, G, h => by
    have h' : (chkE Y (.lof m it) c e && leafA e) = true := h
    simp only [Bool.and_eq_true] at h'
    exact t_val G (soE (.lof m it) G h'.1) rfl h'.2
  | .rev a, X, c, Z, e, G, h => by
    have h' : (chkE Y (.rev a) c e && leafA e) = true := h
    simp only [Bool.and_eq_true] at h'
    exact t_val G (soE (.rev a) G h'.1) rfl h'.2
  | .addL a b, X, c, Z, e, G, h => by
    have h' : (chkE Y (.addL a b) c e && leafA e) = true := h
    simp only [Bool.and_eq_true] at h'
    exact t_val G (soE (.addL a b) G h'.1) rfl h'.2
  | .dsp m ks es, X, c, Z, e, G, h => by
    have h' : (chkE Y (.dsp m ks es) c e && leafA e) = true := h
    simp only [Bool.and_eq_true] at h'
    exact t_val G (soE (.dsp m ks es) G h'.1) rfl h'.2
  | .dcp a, X, c, Z, e, G, h => by
    have h' : (chkE Y (.dcp a) c e && leafA e) = true := h
    simp only [Bool.and_eq_true] at h'
    exact t_val G (soE (.dcp a) G h'.1) rfl h'.2
  | .cmpr m elt tg it cs own, X, c, Z, e, G, h => by
    have h' : (chkE Y (.cmpr m elt tg it cs own) c e && leafA e) = true := h
    simp only [Bool.and_eq_true] at h'
    exact t_val G (soE (.cmpr m elt tg it cs own) G h'.1) rfl h'.2
  | .cmprL m elt tg a cs own, X, c, Z, e, G, h => by
    have h' : (chkE Y (.cmprL m elt tg a cs own) c e && leafA e) = true := h
    simp only [Bool.and_eq_true] at h'
    exact t_val G (soE (.cmprL m elt tg a cs own) G h'.1) rfl h'.2
  | .fst ps, X, c, Z, e, G, h => by
    have h' : (chkE Y (.fst ps) c e && leafA e) = true := h
    simp only [Bool.and_eq_true] at h'
    exact t_val G (soE (.fst ps) G h'.1) rfl h'.2
  | .fmt a, X, c, Z, e, G, h => by
    have h' : (chkE Y (.fmt a) c e && leafA e) = true := h
    simp only [Bool.and_eq_true] at h'
    exact t_val G (soE (.fmt a) G h'.1) rfl h'.2
  | .fmr a, X, c, Z, e, G, h => by
    have h' : (chkE Y (.fmr a) c e && leafA e) = true := h
    simp only [Bool.and_eq_true] at h'
    exact t_val G (soE (.fmr a) G h'.1) rfl h'.2
  | .frz a, X, c, Z, e, G, h => by
    have h' : (chkE Y (.frz a) c e && leafA e) = true := h
    simp only [Bool.and_eq_true] at h'
    exact t_val G (soE (.frz a) G h'.1) rfl h'.2
  | .lenO a m, X, c, Z, e, G, h => by
    have h' : (chkE Y (.lenO a m) c e && leafA e) = true := h
    simp only [Bool.and_eq_true] at h'
    exact t_val G (soE (.lenO a m) G h'.1) rfl h'.2
  | .callO a m b, X, c, Z, e, G, h => by
    have h' : (chkE Y (.callO a m b) c e && leafA e) = true := h
    simp only [Bool.and_eq_true] at h'
    exact t_val G (soE (.callO a m b) G h'.1) rfl h'.2
theorem soEs : ∀ (e : Exs) {X : Cx} {c : Sco} {Z : WX} {a : List Expr}, Good Y X n c Z → chkEs Y e c a = true → PA X a (tEs Y X n Z e)
  | .nil, X, c, Z, a, G, h => by
    unfold chkEs at h
    rw [List.isEmpty_iff.mp h]
    exact s_nil
  | .cons k ks, X, c, Z, a, G, h => by
    unfold chkEs at h
    split at h
    · simp only [Bool.and_eq_true] at h
      exact s_cons (soE k G h.1.2) (soEs ks G h.2) h.1.1
    · cases h
theorem soJ : ∀ (e : Exs) {X : Cx} {c : Sco} {Z : WX} {a : List Expr}, Good Y X n c Z → chkEs Y e c a = true → PJE Y X n Z a e
  | .nil, X, c, Z, a, G, h => by
    unfold chkEs at h
    rw [List.isEmpty_iff.mp h]
    exact .nil
  | .cons k ks, X, c, Z, a, G, h => by
    unfold chkEs at h
    split at h
    · simp only [Bool.and_eq_true] at h
      exact .cons (soE k G h.1.2) (soJ ks G h.2)
    · cases h
theorem soKs : ∀ (e : Exs) {X : Cx} {c : Sco} {Z : WX} {a : List Keyword}, Good Y X n c Z → chkKs Y e c a = true → PK X a (tEs Y X n Z e)
  | .nil, X, c, Z, a, G, h => by
    unfold chkKs at h
    rw [List.isEmpty_iff.mp h]
    exact k_nil
  | .cons k ks, X, c, Z, a, G, h => by
    unfold chkKs at h
    split at h
    · simp only [Bool.and_eq_true] at h
      exact k_cons (soE k G h.1) (soKs ks G h.2)
    · cases h
theorem soO : ∀ (e : Eo) {X : Cx} {c : Sco} {Z : WX} {a : Option Expr}, Good Y X n c Z → chkO Y e c a = true → PO X a (tO Y X n Z e)
  | .no, X, c, Z, a, G, h => by
    unfold chkO at h
    rw [Option.isNone_iff_eq_none.mp h]
    exact o_none
  | .so k, X, c, Z, a, G, h => by
    unfold chkO at h
    split at h
    · exact o_some (soE k G h)
    · cases h
theorem soC : ∀ (e : Eo) {X : Cx} {c : Sco} {Z : WX} {a : List Expr}, Good Y X n c Z → chkC Y e c a = true → PTs X a (tC Y X n Z e)
  | .no, X, c, Z, a, G, h => by
    unfold chkC at h
    rw [List.isEmpty_iff.mp h]
    exact c_no
  | .so k, X, c, Z, a, G, h => by
    unfold chkC at h
    split at h
    · exact c_so (soT k G h)
    · cases h
theorem soRg : ∀ (e : It) {X : Cx} {c : Sco} {Z : WX} {t a : Expr}, Good Y X n c Z → isRg e = true → chkI Y e c t a = true → PRg X a (tRgI Y X n Z e)
  | .rng1 k, X, c, Z, t, a, G, _, h => by
    unfold chkI at h
    split at h
    · simp only [Bool.and_eq_true, decide_eq_true_eq] at h
      obtain ⟨⟨⟨rfl, h2⟩, h3⟩, h4⟩ := h
      exact rg_1 G (fre_of h2).1 (fre_of h2).2 (soE k G h3) h4
    · cases h
  | .rng2 k k2, X, c, Z, t, a, G, _, h => by
    unfold chkI at h
    split at h
    · simp only [Bool.and_eq_true, decide_eq_true_eq] at h
      obtain ⟨⟨⟨⟨⟨rfl, h2⟩, h3⟩, h4⟩, h5⟩, h6⟩ := h
      exact rg_2 G (fre_of h2).1 (fre_of h2).2 (soE k G h3) (soE k2 G h4) h5 h6
    · cases h
  | .seq _, X, c, Z, t, a, G, q, h => by cases q
  | .rngB _ _, X, c, Z, t, a, G, q, h => by cases q
  | .enu _, X, c, Z, t, a, G, q, h => by cases q
  | .zip _ _, X, c, Z, t, a, G, q, h => by cases q
  | .rng3 _ _ _, X, c, Z, t, a, G, q, h => by cases q
theorem soRg3 : ∀ (e : It) {X : Cx} {c : Sco} {Z : WX} {t a : Expr} {p pos : Pos} {m : Bool}, Good Y X n c Z → isRg3 e = true → chkI Y e c t a = true → ("list" : Str) ∈ Y.fre → glB c.sc "list" = true → PE X (.Call (.Name "list" p) [a] [] pos) (tE Y X n Z (.lof m e))
  | .rng3 k k2 k3, X, c, Z, t, a, _, _, _, G, _, h, l1, l2 => by
    unfold chkI at h
    split at h
    · simp only [Bool.and_eq_true, decide_eq_true_eq] at h
      obtain ⟨⟨⟨⟨⟨⟨⟨rfl, h2⟩, h3⟩, h4⟩, h5⟩, h6⟩, h7⟩, h8⟩ := h
      exact s_lof3 G l1 l2 (fre_of h2).1 (fre_of h2).2 (soE k G h3) (soE k2 G h4) (soE k3 G h5) h6 h7 h8
    · cases h
  | .rng1 _, X, c, Z, t, a, _, _, _, G, q, h, _, _ => by cases q
  | .rng2 _ _, X, c, Z, t, a, _, _, _, G, q, h, _, _ => by cases q
  | .seq _, X, c, Z, t, a, _, _, _, G, q, h, _, _ => by cases q
  | .rngB _ _, X, c, Z, t, a, _, _, _, G, q, h, _, _ => by cases q
  | .enu _, X, c, Z, t, a, _, _, _, G, q, h, _, _ => by cases q
  | .zip _ _, X, c, Z, t, a, _, _, _, G, q, h, _, _ => by cases q
theorem soI : ∀ (e : It) {X : Cx} {c : Sco} {Z : WX} {t a : Expr}, Good Y X n c Z → chkI Y e c t a = true → PI X t a (tI Y X n Z e)
  | .seq k, X, c, Z, t, a, G, h => by
    unfold chkI at h
    exact i_seq (soE k G h)
  | .rng1 k, X, c, Z, t, a, G, h => by
    unfold chkI at h
    split at h
    · simp only [Bool.and_eq_true, decide_eq_true_eq] at h
      obtain ⟨⟨⟨rfl, h2⟩, h3⟩, h4⟩ := h
      exact i_rng1 G (fre_of h2).1 (fre_of h2).2 (soE k G h3) h4
    · cases h
  | .rng2 k k2, X, c, Z, t, a, G, h => by
    unfold chkI at h
    split at h
    · simp only [Bool.and_eq_true, decide_eq_true_eq] at h
      obtain ⟨⟨⟨⟨⟨rfl, h2⟩, h3⟩, h4⟩, h5⟩, h6⟩ := h
      exact i_rng2 G (fre_of h2).1 (fre_of h2).2 (soE k G h3) (soE k2 G h4) h5 h6
    · cases h
  | .rngB k k2, X, c, Z, t, a, G, h => by
    unfold chkI at h
    split at h
    · simp only [Bool.and_eq_true, decide_eq_true_eq] at h
      obtain ⟨⟨⟨⟨⟨rfl, h2⟩, h3⟩, h4⟩, h5⟩, h6⟩ := h
      exact i_rngB G (fre_of h2).1 (fre_of h2).2 (soE k G h3) (soE k2 G h4) h5 h6
    · cases h
  | .rng3 k k2 k3, X, c, Z, t, a, G, h => by
    unfold chkI at h
    split at h
    · simp only [Bool.and_eq_true, decide_eq_true_eq] at h
      obtain ⟨⟨⟨⟨⟨⟨⟨rfl, h2⟩, h3⟩, h4⟩, h5⟩, h6⟩, h7⟩, h8⟩ := h
      exact i_rng3 G (fre_of h2).1 (fre_of h2).2 (soE k G h3) (soE k2 G h4) (soE k3 G h5) h6 h7 h8
    · cases h
  | .enu k, X, c, Z, t, a, G, h => by
    unfold chkI at h
    split at h
    · simp only [Bool.and_eq_true, decide_eq_true_eq] at h
      obtain ⟨⟨⟨rfl, h2⟩, h3⟩, h4⟩ := h
      exact i_enu G (fre_of h2).1 (fre_of h2).2 (soE k G h3) h4
    · cases h
  | .zip k k2, X, c, Z, t, a, G, h => by
    unfold chkI at h
    split at h
    · simp only [Bool.and_eq_true, decide_eq_true_eq] at h
      obtain ⟨⟨⟨⟨⟨rfl, h2⟩, h3⟩, h4⟩, h5⟩, h6⟩ := h
      exact i_zip G (fre_of h2).1 (fre_of h2).2 (soE k G h3) (soE k2 G h4) h5 h6
    · cases h
end
end Ev
end
section
/-! EvDI: what is checked is true: statements, defs. Own work. -/
set_option linter.all false
set_option autoImplicit false
set_option maxRecDepth 100000
set_option maxHeartbeats 2000000
namespace Ev
open PySem PySem.Spec PyProof.Rows L2
def chkTg (Y : Txt) (c : Sco) : Tg → Expr → Bool
  | .name i, e => match e with
    | .Name x _ => decide (c.N[i]? = some x) && locB c x
    | _ => false
  | .sub a i, e => match e with
    | .Subscript l r _ => chkE Y a c l && chkE Y i c r && notSlice r
    | _ => false
def chkTgs (Y : Txt) (c : Sco) : List Tg → List Expr → Bool
  | [], es => es.isEmpty
  | t :: ts, es => match es with
    | e :: es => chkTg Y c t e && notStar e && chkTgs Y c ts es
    | [] => false
/-- a list comprehension that is put into a name on its own row -/
def lcOk (c : Sco) (x : Str) (px : Pos) : Expr → Bool
  | .ListComp _ _ scope pos => decide (c.sc.names.lookup x = some .local) && (px.line == pos.line) && !(scope.names.any fun q => q.1 == x && (q.2 == .local || q.2 == .cell))
  | _ => false
/-- the value is stored part by part, from the left -/
def leftOk (c : Sco) (es : List Expr) : Expr → Bool
  | .Tuple vs _ _ => decide (swT c.sc es vs = some none)
  | _ => true
mutual
def chkS (Y : Txt) : Sm → Sco → Stmt → Bool
  | .rais _ _, _, _ => true
  | .pass, _, s => match s with
    | .Pass _ => true
    | .Expr (.Constant (.str _) _ _) _ => true
    | _ => false
  | .brk, _, s => match s with
    | .Break _ => true
    | _ => false
  | .cnt, _, s => match s with
    | .Continue _ => true
    | _ => false
  | .expr e, c, s => match s with
    | .Expr a _ => chkE Y e c a && noComp a
    | _ => false
  | .ret e, c, s => match s with
    | .Return (some a) _ => chkE Y e c a
    | _ => false
  | .retN, _, s => match s with
    | .Return none _ => true
    | _ => false
  | .ite e a b, c, s => match s with
    | .If t x y _ => chkT Y e (chkE Y e) c t && chkSs Y a c x && chkSs Y b c y
    | _ => false
  | .asg t e, c, s => match t, s with
    | .name i, .Assign [.Name x px] v _ => decide (c.N[i]? = some x) && locB c x && chkE Y e c v && (noComp v || (lcOk c x px v && match e with
      | .cmpr _ _ _ _ _ _ => true
      | .cmprL _ _ _ _ _ _ => true
      | _ => false))
    | .sub a i, .Assign [.Subscript l r _] v _ => chkE Y a c l && chkE Y i c r && notSlice r && chkE Y e c v && noComp v
    | _, _ => false
  | .unp ts e, c, s => match s with
    | .Assign [.Tuple es _ _] v _ => chkTgs Y c ts es && es.all notStar && decide (ts.length = es.length) && chkE Y e c v && leftOk c es v
    | _ => false
  | .unn ts e, c, s => match s with
    | .Assign [.Tuple es k p] v _ => chkN c (.tup ts) (.Tuple es k p) && chkE Y e c v && leftOk c es v
    | _ => false
  | .par is es, c, s => match is, s with
    | [i, j], .Assign [.Tuple [.Name x px, .Name y py] kt pt] (.Tuple [a, b] _ _) _ => decide (c.N[i]? = some x) && decide (c.N[j]? = some y) && decide (i ≠ j) && decide (c.sc.names.lookup x = some .local) && decide (c.sc.names.lookup y = some .local) && chkEs Y es c [a, b] &&
      decide (swT c.sc [.Name x px, .Name y py] [a, b] = some (some [x, y]))
    | [i, j, l], .Assign [.Tuple [.Name x px, .Name y py, .Name z pz] kt pt] (.Tuple [a, b, d] _ _) _ => decide (c.N[i]? = some x) && decide (c.N[j]? = some y) && decide (c.N[l]? = some z) && decide (i ≠ j) && decide (i ≠ l) && decide (j ≠ l) && decide (c.sc.names.lookup x = some .local) &&
      decide (c.sc.names.lookup y = some .local) && decide (c.sc.names.lookup z = some .local) && chkEs Y es c [a, b, d] && decide (swT c.sc [.Name x px, .Name y py, .Name z pz] [a, b, d] = some (some [x, y, z]))
    | _, _ => false
  | .pat is es, c, s => match s with
    | .Assign [.Tuple ts kt pt] (.Tuple as k2 pt2) _ => chkWs c is ts && chkEs Y es c as && decide (is.length ≤ 4000) && leftOk c ts (.Tuple as k2 pt2)
    | _ => false
  | .satt a f e, c, s => match s with
    | .Assign [.Attribute l nm _] v _ => decide (Y.an[f]? = some nm) && chkE Y a c l && chkE Y e c v && noComp v
    | _ => false
  | .aug i o e, c, s => match s with
    | .AugAssign (.Name x _) op v _ => decide (c.N[i]? = some x) && locB c x && decide (op = opA o) && chkE Y e c v
    | _ => false
  | .loop tg it b, c, s => match s with
    | .For et ei body [] _ => chkI Y it c et ei && notSet ei && chkN c tg et && chkSs Y b c body
    | _ => false
  | .loopL en tg a b, c, s => match s with
    | .For et ei body [] _ => (match en, et, ei with
      | true, .Tuple _ _ _, .Call (.Name x _) [l] [] _ => decide (x = "enumerate") && freOk Y c x && chkE Y a c l && notStar l
      | true, _, _ => false
      | false, _, e => chkE Y a c e) && notSet ei && chkN c tg et && chkSs Y b c body
    | _ => false
  | .whil e b, c, s => match s with
    | .While t body [] _ => chkT Y e (chkE Y e) c t && chkSs Y b c body
    | _ => false
def chkSs (Y : Txt) : Sms → Sco → List Stmt → Bool
  | .nil, _, ss => ss.isEmpty
  | .cons s r, c, ss => match ss with
    | t :: ts => chkS Y s c t && chkSs Y r c ts
    | [] => false
  | .frz _ r, c, ss => chkSs Y r c ss
end
variable {Y : Txt} {n : Nat}
structure GoodS (Y : Txt) (X : Cx) (n : Nat) (c : Sco) (Z : WX) : Prop where
  g : Good Y X n c Z
  own : PassesOwn (model X.prog X.w) X.A X.env X.xe
theorem soTg {X : Cx} {c : Sco} {Z : WX} (G : Good Y X n c Z) {t : Tg} {e : Expr} (h : chkTg Y c t e = true) : PG X e (gT Y X n Z t) := by
  cases t with
  | name i =>
    simp only [chkTg] at h
    split at h
    · simp only [Bool.and_eq_true, decide_eq_true_eq] at h
      exact gt_name G h.1 h.2
    · cases h
  | sub a i =>
    simp only [chkTg] at h
    split at h
    · simp only [Bool.and_eq_true] at h
      exact gt_sub G (soE a G h.1.1) (soE i G h.1.2) h.2
    · cases h
theorem soTgs {X : Cx} {c : Sco} {Z : WX} (G : Good Y X n c Z) : ∀ {ts : List Tg} {es : List Expr}, chkTgs Y c ts es = true → PGs X es (gTs Y X n Z ts)
  | [], es, h => by
    unfold chkTgs at h
    rw [List.isEmpty_iff.mp h]
    exact gts_nil
  | t :: ts, es, h => by
    unfold chkTgs at h
    split at h
    · simp only [Bool.and_eq_true] at h
      exact gts_cons (soTg G h.1.1) (soTgs G h.2) h.1.2
    · cases h
theorem sws_false {t e : Expr} {l : Nat} {env : PySem.Env} (h : noComp e = true) : swapsWithSole [t] e l env = pure false := by
  show swapsWith e (some t) l env = pure false
  exact sw_false h
theorem sws_tup {es : List Expr} {k : Nat} {p : Pos} {e : Expr} {l : Nat} {env : PySem.Env} : swapsWithSole [.Tuple es k p] e l env = pure false := by
  show swapsWith e (some (.Tuple es k p)) l env = pure false
  cases e <;> rfl
theorem left_of {X : Cx} {c : Sco} {Z : WX} (G : Good Y X n c Z) {es : List Expr} {v : Expr} {k : Nat} {p : Pos} (h : leftOk c es v = true) : swappedStores [.Tuple es k p] v X.env = pure none := by
  cases v with
  | Tuple vs k2 p2 => exact swT_ok G.sc G.kind (of_decide_eq_true h)
  | _ => exact sw_nt rfl
mutual
theorem soS : ∀ (s : Sm) {X : Cx} {c : Sco} {Z : WX} {st : Stmt}, GoodS Y X n c Z → chkS Y s c st = true → PS X st (tS Y X n Z s)
  | .rais k es, X, c, Z, st, G, h => z_never
  | .pass, X, c, Z, st, G, h => by
    unfold chkS at h
    split at h
    · exact z_pass ps_pass
    · exact z_pass ps_doc
    · cases h
  | .brk, X, c, Z, st, G, h => by
    unfold chkS at h
    split at h
    · exact z_brk
    · cases h
  | .cnt, X, c, Z, st, G, h => by
    unfold chkS at h
    split at h
    · exact z_cnt
    · cases h
  | .expr e, X, c, Z, st, G, h => by
    unfold chkS at h
    split at h
    · simp only [Bool.and_eq_true] at h
      exact z_expr (soE e G.g h.1) h.2
    · cases h
  | .ret e, X, c, Z, st, G, h => by
    unfold chkS at h
    split at h
    · exact z_ret (soE e G.g h)
    · cases h
  | .retN, X, c, Z, st, G, h => by
    unfold chkS at h
    split at h
    · exact z_retN
    · cases h
  | .ite e a b, X, c, Z, st, G, h => by
    unfold chkS at h
    split at h
    · simp only [Bool.and_eq_true] at h
      exact z_ite (soT e G.g h.1.1) (soSs a G h.1.2) (soSs b G h.2)
    · cases h
  | .asg t e, X, c, Z, st, G, h => by
    unfold chkS at h
    split at h
    · rename_i i x px v pos
      simp only [Bool.and_eq_true, decide_eq_true_eq, Bool.or_eq_true] at h
      obtain ⟨⟨⟨h1, h2⟩, h3⟩, h4⟩ := h
      rcases h4 with h4 | ⟨h4, h5⟩
      · exact z_set G.g (soE e G.g h3) h1 h2 h4
      · split at h5
        · rename_i m elt tg it cs own
          unfold chkE at h3
          split at h3
          · simp only [Bool.and_eq_true, List.all_eq_true] at h3
            obtain ⟨⟨⟨⟨⟨⟨k1, k2⟩, k3⟩, k4⟩, k5⟩, k6⟩, k7⟩ := h3
            simp only [lcOk, Bool.and_eq_true, decide_eq_true_eq, Bool.not_eq_true'] at h4
            exact z_setLc (s_setLc G.g (soI it G.g k1) (notSet_ok k2) ⟨k3, fun i hi => List.contains_iff_mem.mp (k4 i hi), k5, fun X' _ _ G' => soC cs G' k6, fun X' _ _ G' => soE elt G' k7⟩ h1 h4.1.1 h4.1.2 h4.2)
          · cases h3
        · rename_i m elt tg a cs own
          unfold chkE at h3
          split at h3
          · simp only [Bool.and_eq_true, List.all_eq_true] at h3
            obtain ⟨⟨⟨⟨⟨⟨k1, k2⟩, k3⟩, k4⟩, k5⟩, k6⟩, k7⟩ := h3
            simp only [lcOk, Bool.and_eq_true, decide_eq_true_eq, Bool.not_eq_true'] at h4
            exact z_setLc (s_setLcL G.g (soE a G.g k1) (notSet_ok k2) ⟨k3, fun i hi => List.contains_iff_mem.mp (k4 i hi), k5, fun X' _ _ G' => soC cs G' k6, fun X' _ _ G' => soE elt G' k7⟩ h1 h4.1.1 h4.1.2 h4.2)
          · cases h3
        · cases h5
    · simp only [Bool.and_eq_true] at h
      obtain ⟨⟨⟨⟨h1, h2⟩, h3⟩, h4⟩, h5⟩ := h
      exact z_asg (soE e G.g h4) (gt_sub G.g (soE _ G.g h1) (soE _ G.g h2) h3) (sws_false h5) (sw_nn rfl rfl) rfl
    · cases h
  | .unp ts e, X, c, Z, st, G, h => by
    unfold chkS at h
    split at h
    · simp only [Bool.and_eq_true, decide_eq_true_eq] at h
      obtain ⟨⟨⟨⟨h1, h2⟩, h3⟩, h4⟩, h6⟩ := h
      exact z_unp G.g (soE e G.g h4) (soTgs G.g h1) (sws_tup) (left_of G.g h6) h2 h3
    · cases h
  | .unn ts e, X, c, Z, st, G, h => by
    unfold chkS at h
    split at h
    · simp only [Bool.and_eq_true] at h
      obtain ⟨⟨h1, h2⟩, h3⟩ := h
      exact z_unn G.g (soE e G.g h2) h1 (sws_tup) (left_of G.g h3)
    · cases h
  | .par is es, X, c, Z, st, G, h => by
    unfold chkS at h
    split at h
    · simp only [Bool.and_eq_true, decide_eq_true_eq] at h
      obtain ⟨⟨⟨⟨⟨⟨h1, h2⟩, h3⟩, h4⟩, h5⟩, h6⟩, h7⟩ := h
      exact z_par2 G.g h1 h2 h3 h4 h5 (soEs es G.g h6) (swT_ok G.g.sc G.g.kind h7)
    · simp only [Bool.and_eq_true, decide_eq_true_eq] at h
      obtain ⟨⟨⟨⟨⟨⟨⟨⟨⟨⟨h1, h2⟩, h3⟩, h4⟩, h5⟩, h6⟩, h7⟩, h8⟩, h9⟩, h10⟩, h11⟩ := h
      exact z_par3 G.g h1 h2 h3 h4 h5 h6 h7 h8 h9 (soEs es G.g h10) (swT_ok G.g.sc G.g.kind h11)
    · cases h
  | .pat is es, X, c, Z, st, G, h => by
    unfold chkS at h
    split at h
    · simp only [Bool.and_eq_true, decide_eq_true_eq] at h
      obtain ⟨⟨⟨h1, h2⟩, h3⟩, h4⟩ := h
      exact z_pat G.g h1 (soEs es G.g h2) h3 (left_of G.g h4)
    · cases h
  | .satt a f e, X, c, Z, st, G, h => by
    unfold chkS at h
    split at h
    · simp only [Bool.and_eq_true, decide_eq_true_eq] at h
      obtain ⟨⟨⟨h1, h2⟩, h3⟩, h4⟩ := h
      exact z_satt G.g (soE a G.g h2) (soE e G.g h3) h1 h4
    · cases h
  | .aug i o e, X, c, Z, st, G, h => by
    unfold chkS at h
    split at h
    · simp only [Bool.and_eq_true, decide_eq_true_eq] at h
      obtain ⟨⟨⟨h1, h2⟩, rfl⟩, h4⟩ := h
      exact z_aug G.g (soE e G.g h4) h1 h2
    · cases h
  | .loop tg it b, X, c, Z, st, G, h => by
    unfold chkS at h
    split at h
    · simp only [Bool.and_eq_true] at h
      obtain ⟨⟨⟨h1, h2⟩, h3⟩, h4⟩ := h
      exact z_for G.g G.own (soI it G.g h1) h3 (soSs b G h4) (notSet_ok h2)
    · cases h
  | .loopL en tg a b, X, c, Z, st, G, h => by
    unfold chkS at h
    split at h
    · simp only [Bool.and_eq_true] at h
      obtain ⟨⟨⟨h1, h2⟩, h3⟩, h4⟩ := h
      refine z_forL G.g G.own ?_ h3 (soSs b G h4) (notSet_ok h2)
      split at h1
      · simp only [Bool.and_eq_true, decide_eq_true_eq] at h1
        obtain ⟨⟨⟨rfl, g2⟩, g3⟩, g4⟩ := h1
        exact l_enu G.g (fre_of g2).1 (fre_of g2).2 (soE a G.g g3) g4
      · cases h1
      · exact l_seq (soE a G.g h1)
    · cases h
  | .whil e b, X, c, Z, st, G, h => by
    unfold chkS at h
    split at h
    · simp only [Bool.and_eq_true] at h
      exact z_while G.g G.own (soT e G.g h.1) (soSs b G h.2)
    · cases h
theorem soSs : ∀ (s : Sms) {X : Cx} {c : Sco} {Z : WX} {st : List Stmt}, GoodS Y X n c Z → chkSs Y s c st = true → PSs X st (tSs Y X n Z s)
  | .nil, X, c, Z, st, G, h => by
    unfold chkSs at h
    rw [List.isEmpty_iff.mp h]
    exact b_nil
  | .cons s r, X, c, Z, st, G, h => by
    unfold chkSs at h
    split at h
    · simp only [Bool.and_eq_true] at h
      exact b_cons (soS s G h.1) (soSs r G h.2)
    · cases h
  | .frz i r, X, c, Z, st, G, h => by
    unfold chkSs at h
    exact b_frz (soSs r G h)
end

/-! ### all defs -/
/-- a def's head and body are what the tables say -/
def chkDef (Y : Txt) (d : Df) (f : Fn) (N : List Str) : Bool := (match d.scope.kind with
  | .function => true
  | _ => false) && !d.scope.isCoroutine && !d.scope.isGenerator && decide (N.Nodup) && decide (N.take d.ps.length = d.ps) && (d.ps.all fun x => match d.scope.names.lookup x with
  | some .local => true
  | some .cell => true
  | _ => false) && (d.scope.names.all fun q => q.2 != .free) && (f.nl == N.length) && (f.np == d.ps.length) && chkSs Y f.body ⟨N, d.scope, fun _ => true⟩ d.body
def Txt.bodyB (Y : Txt) : Bool := decide (Y.N.length = Y.defs.length) && decide (Y.T.fns.length = Y.defs.length) && (Y.defs.zip (Y.T.fns.zip Y.N)).all fun q => chkDef Y q.1 q.2.1 q.2.2
theorem def_at (h : Y.bodyB = true) {g : Nat} {d : Df} (hd : Y.defs[g]? = some d) : ∃ f N, Y.T.fns[g]? = some f ∧ chkDef Y d f N = true := by
  simp only [Txt.bodyB, Bool.and_eq_true, decide_eq_true_eq, List.all_eq_true] at h
  obtain ⟨⟨h1, h2⟩, h3⟩ := h
  have hg := (List.getElem?_eq_some_iff.mp hd).1
  have a1 := List.getElem?_eq_getElem (l := Y.T.fns) (i := g) (by omega)
  have a2 := List.getElem?_eq_getElem (l := Y.N) (i := g) (by omega)
  refine ⟨_, _, a1, h3 (d, (Y.T.fns[g]'(by omega), Y.N[g]'(by omega))) (List.mem_of_getElem? (i := g) ?_)⟩
  rw [List.getElem?_zip_eq_some, List.getElem?_zip_eq_some]
  exact ⟨hd, a1, a2⟩
theorem start_rel {L : Lay} {H : Hp} {al : List Addr} {ws : List W} {vs : List V} {N : List Str} (r : RepWs L H al ws vs) (hl : vs.length ≤ N.length) : RelE L H al (Ev.start N.length ws) (L2.start N vs) := by
  have e := r.length
  refine ⟨by simp [Ev.start, L2.start, e], fun i w h => ?_⟩
  unfold Ev.start at h
  unfold L2.start
  have hi : i < ws.length := by
    by_cases hi : i < ws.length
    · exact hi
    · rw [List.getElem?_append_right (by simpa using hi), List.getElem?_replicate] at h
      split at h <;> cases h
  rw [List.getElem?_append_left (by simpa using hi), List.getElem?_map] at h
  obtain ⟨w', ew, e2⟩ := Option.map_eq_some_iff.mp h
  cases e2
  obtain ⟨v, ev, rv⟩ := r.get ew
  refine ⟨v, ?_, rv⟩
  rw [List.getElem?_append_left (by rw [List.length_map, ← e]; exact hi), List.getElem?_map, ev]
  rfl
/-- from a def's end to its call's end -/
theorem fin_run {L : Lay} {H : Hp} {al : List Addr} {S : Store} {r : R Fl} {Q : VK} {E : XK} (rs : RelS L H S al) (h : Runs L al.length H al (RepW L) (fin S.length r) Q E) : RunF L al.length H al { nx := fun _ H' => Q .non H', rt := Q } (fun cls d _ H' => E cls d H') r := by
  have len := rs.len
  cases r with
  | bad => exact h.elim
  | ex _ _ _ => exact h.elim
  | ok fl S1 =>
    intro H1 al1 st rs1
    have st1 : Step al.length H al H1 (al1.take al.length) := st.trans (Step.cutTo (Nat.le_refl _) st.le')
    have kd : ∀ a o, H1 a = some o → a ∉ al1 → H1 a = some o ∧ a ∉ al1.take al.length := fun a o e m => ⟨e, fun z => m (List.mem_of_mem_take z)⟩
    have rs2 : RelS L H1 (S1.take S.length) (al1.take al.length) := by rw [← len]; exact rs1.cutTo _
    cases fl with
    | nx e => exact fun σ _ => (show Runs L al.length H al (RepW L) (.ok (.d .non) (S1.take S.length)) Q E from h) .non H1 _ st1 rs2 (by simp [RepW, RepD])
    | bk e => exact h.elim
    | ct e => exact h.elim
    | ex c vs e => exact fun σ cls d _ xr => (show Runs L al.length H al (RepW L) (.ex c vs (S1.take S.length)) Q E from h) cls d H1 _ st1 rs2 (xr.stay kd)
    | rt w =>
      intro v rv
      cases w with
      | d x => exact (show Runs L al.length H al (RepW L) (.ok (.d x) (S1.take S.length)) Q E from h) v H1 _ st1 rs2 (RepD.stay kd _ _ rv)
      | loc m =>
        have h2 : Runs L al.length H al (RepW L) (if m < S.length then .ok (.loc m) (S1.take S.length) else (match S1[m]? with
          | some o => .ok (.loc S.length) (S1.take S.length ++ [o])
          | none => .bad)) Q E := h
        obtain ⟨a, ea, rfl⟩ := rv
        split at h2
        · rename_i hm
          refine h2 (.ref a) H1 _ st1 rs2 ⟨a, ?_, rfl⟩
          rw [List.getElem?_take_of_lt (by omega)]; exact ea
        · rename_i hm
          cases eo : S1[m]? with
          | none => rw [eo] at h2; exact h2.elim
          | some o =>
            rw [eo] at h2
            have hn : a ∉ al1.take al.length := fun mm => by
              obtain ⟨i, hi, e⟩ := List.mem_iff_getElem.mp mm
              rw [List.getElem_take] at e
              obtain ⟨hm2, e2⟩ := List.getElem?_eq_some_iff.mp ea
              have := (List.getElem_inj rs1.nd).mp (e.trans e2.symm)
              simp at hi
              omega
            have kd2 : ∀ b o, H1 b = some o → b ∉ al1 → H1 b = some o ∧ b ∉ al1.take al.length ++ [a] := fun b o e mm => ⟨e, fun z => by
              rcases List.mem_append.mp z with z | z
              · exact mm (List.mem_of_mem_take z)
              · rw [List.mem_singleton.mp z] at mm
                exact mm (List.mem_of_getElem? ea)⟩
            have lt : (al1.take al.length).length = al.length := by rw [List.length_take]; exact Nat.min_eq_left st.le'
            have rs3 : RelS L H1 (S1.take S.length ++ [o]) (al1.take al.length ++ [a]) := by
              refine ⟨by simp [rs2.len], List.nodup_append.mpr ⟨rs2.nd, by simp, fun x hx y hy => by simp at hy; subst hy; intro z; subst z; exact hn hx⟩, fun i b u e1 e2 => ?_⟩
              by_cases hi : i < al.length
              · rw [List.getElem?_append_left (by omega), List.getElem?_take_of_lt hi] at e1
                have lS : (S1.take S.length).length = S.length := by rw [← rs2.len, lt, len]
                rw [List.getElem?_append_left (by omega), List.getElem?_take_of_lt (by omega)] at e2
                have q := rs1.obj i b u e1 e2
                cases u with
                | lst ds => obtain ⟨vs, e, r⟩ := q; exact ⟨vs, e, r.stay kd2⟩
                | dic _ _ => obtain ⟨kvs, e, f, r⟩ := q; exact ⟨kvs, e, f, r.stay kd2⟩
                | ins c fs => obtain ⟨dx, fvs, e, f, r⟩ := q; exact ⟨dx, fvs, e, f, r.stay kd2⟩
                | hid ds => obtain ⟨vs, e, r⟩ := q; exact ⟨vs, e, r.stay kd2⟩
              · have hi' : i = al.length := by
                  have := (List.getElem?_eq_some_iff.mp e1).1
                  simp only [List.length_append, lt, List.length_singleton] at this
                  omega
                subst hi'
                have lS : (S1.take S.length).length = al.length := by rw [← rs2.len, lt]
                rw [List.getElem?_append_right (by omega), lt, Nat.sub_self] at e1
                rw [List.getElem?_append_right (by omega), lS, Nat.sub_self] at e2
                simp at e1 e2
                subst e1 e2
                have q := rs1.obj m a o ea eo
                cases o with
                | lst ds => obtain ⟨vs, e, r⟩ := q; exact ⟨vs, e, r.stay kd2⟩
                | dic _ _ => obtain ⟨kvs, e, f, r⟩ := q; exact ⟨kvs, e, f, r.stay kd2⟩
                | ins c fs => obtain ⟨dx, fvs, e, f, r⟩ := q; exact ⟨dx, fvs, e, f, r.stay kd2⟩
                | hid ds => obtain ⟨vs, e, r⟩ := q; exact ⟨vs, e, r.stay kd2⟩
            refine h2 (.ref a) H1 (al1.take al.length ++ [a]) ⟨?_, st.le, by simp [lt], fun b o e mm => ?_⟩ rs3 ⟨a, ?_, rfl⟩
            · rw [List.take_append_of_le_length (by omega)]
              exact st1.pre
            · exact kd2 b o (st.keep b o e mm).1 (st.keep b o e mm).2
            · rw [← len, List.getElem?_append_right (by omega), lt, Nat.sub_self]; rfl
/-- THE DEFS: each keeps its promise, at every depth of calls -/
theorem all_defs {P : Program} {w : World} {K : PySem.W.Frag} {mg : Str → Option Value} {base : Heap} (hb : Y.bodyB = true) (h1 : Y.stat = true) (h2 : Y.sig = true) (L : Lnk Y K w mg) :
    ∀ (n g : Nat) (d : Df), Y.defs[g]? = some d → ∀ fd, IsDf K d fd → FnG P w K mg base (4 * n) (pAd K d.at_) fd d.ps (spG Y K w n g)
  | 0, g, d, hd, fd, F => ⟨fun A outer s H args us vs Q E _ _ _ _ _ _ h => by
    obtain ⟨ws, S, al, _, _, h⟩ := h
    exact h.elim⟩
  | n + 1, g, d, hd, fd, F => by
    have ih := all_defs (P := P) (base := base) hb h1 h2 L n
    obtain ⟨f, N, hf, hc⟩ := def_at hb hd
    simp only [chkDef, Bool.and_eq_true, decide_eq_true_eq, Bool.not_eq_true', List.all_eq_true, beq_iff_eq] at hc
    obtain ⟨⟨⟨⟨⟨⟨⟨⟨⟨c1, c2⟩, c3⟩, c4⟩, c5⟩, c6⟩, c7⟩, c8⟩, c9⟩, c10⟩ := hc
    have hk : d.scope.kind = .function := by
      split at c1
      · assumption
      · cases c1
    have S : FnScope N d.ps d.scope := by
      refine ⟨hk, c2, c3, c4, c5, fun x hx => ?_, fun y hy z => ?_⟩
      · have := c6 x hx
        split at this
        · rename_i e; exact .inl e
        · rename_i e; exact .inr e
        · cases this
      · have := c7 y hy
        rw [z] at this
        cases this
    refine fnG_of (k := 4 * n + 3) F S fun cdv A outer s H vs Q E room gd hl hsp => ?_
    obtain ⟨ws, St, al, rs, rws, hr⟩ := hsp
    refine ⟨tSs Y (cxOf (L2.CX P w) P w K mg base N d.qual d.scope (pAd K d.at_) cdv A outer s H E) n (fun cls d _ H' => E cls d H') f.body, soSs f.body (c := ⟨N, d.scope, fun _ => true⟩) ⟨⟨rfl, c4, rfl, room, gd, L, ih, takes_of rfl rfl rfl rfl, rfl, hk, fun _ _ => rfl, h1, h2⟩, passes_of rfl⟩ c10, ?_⟩
    have hr2 : Runs (Y.lay K w) al.length H al (RepW (Y.lay K w)) (match Y.T.fns[g]? with
      | some f => if ws.length = f.np then fin St.length (evSs Y.T (callD Y.T n) St.length f.body (Ev.start f.nl ws) St) else .bad
      | none => .bad) Q E := hr
    rw [hf] at hr2
    simp only at hr2
    split at hr2
    · rename_i hlen
      have hps : d.ps.length ≤ N.length := by
        have := congrArg List.length c5
        rw [List.length_take] at this
        omega
      refine ⟨al.length, Ev.start f.nl ws, St, al, Nat.le_refl _, ?_, rs, ?_⟩
      · rw [c8]
        exact start_rel rws (by rw [hl]; exact hps)
      · have := fin_run rs hr2
        rw [← rs.len] at this
        exact this
    · exact hr2.elim
end Ev
end
section
/-! EvDJ: a law's end: the head's facts, the entry. Own work. -/
set_option linter.all false
set_option autoImplicit false
set_option maxRecDepth 100000
set_option maxHeartbeats 2000000
namespace Ev
open PySem PySem.Spec PyProof.Rows L2
/-! ### what is looked at behind the top -/
abbrev ObsT : Type := Bool × List He.FnW × List (Option (List (Option (Str × Int))))
def Txt.obs (Y : Txt) (K : PySem.W.Frag) : ObsT := (Y.factB K && Y.isiB K, Y.defs.map (fun d => fnX K d.at_), Y.dics.map fun q => He.dicW K (He.ga K q.1))
def Txt.val (Y : Txt) (w : World) : ObsT := (true, Y.defs.map Df.val, Y.dics.map fun q => some (He.keysIn w.params q.2))
def Txt.obsG (Y : Txt) (m : Nat) (g : Addr → Option Obj) : ObsT := Y.obs (He.frG g (He.asD g m))
def hookY (m : Nat) (Y : Txt) : PySem.W.Hook where
  α := ObsT
  obs := fun s => Y.obsG m s.heap.get?
  val := fun w => Y.val w
  says := fun w h => ∃ K : PySem.W.Frag, K.In h ∧ Y.obs K = Y.val w
  of := fun _ _ e => ⟨_, He.frG_in, e⟩
  keeps := fun _ _ _ ⟨K, hK, c⟩ k => ⟨K, PySem.W.Frag.In.keeps hK k, c⟩
theorem obsG_eq {m : Nat} {Y : Txt} {g : Addr → Option Obj} {s : Shared} (h : ∀ a, g a = s.heap.get? a) : Y.obsG m g = (hookY m Y).obs s := by
  have e : g = s.heap.get? := funext h
  rw [e] <;> rfl
theorem lnk_of {Y : Txt} {K : PySem.W.Frag} {w : World} {mg : Str → Option Value} {h : Heap} (KX : K.In h) (G : h.Ns mainGlobals mg) (c : Y.obs K = Y.val w) : Lnk Y K w mg := by
  have c1 : (Y.factB K && Y.isiB K) = true := congrArg (fun z : ObsT => z.1) c
  have c2 : Y.defs.map (fun d => fnX K d.at_) = Y.defs.map Df.val := congrArg (fun z : ObsT => z.2.1) c
  have c3 : Y.dics.map (fun q => He.dicW K (He.ga K q.1)) = Y.dics.map fun q => some (He.keysIn w.params q.2) := congrArg (fun z : ObsT => z.2.2) c
  rw [Bool.and_eq_true] at c1
  refine ⟨c1.1, c1.2, c2, fun x o e => ?_, c3⟩
  cases o with
  | none => exact PySem.W.mg_none_of KX G e
  | some u => exact PySem.W.mg_of KX G e

/-! ### the entry -/
/-- the heap at the law's entry: the script alone, if it is none of the module's objects -/
def only (K : PySem.W.Frag) (a : Addr) (ob : Obj) (xs : List V) : Hp := fun b => if b = a ∧ K.lookup a = none then some (.frz ob (.lst xs)) else none
theorem only_some {K : PySem.W.Frag} {a b : Addr} {ob : Obj} {xs : List V} {u : HO} (h : only K a ob xs b = some u) : b = a ∧ K.lookup a = none ∧ u = .frz ob (.lst xs) := by
  unfold only at h
  split at h
  · rename_i q
    cases h
    exact ⟨q.1, q.2, rfl⟩
  · cases h
theorem law_end {P : Program} {w : World} {K : PySem.W.Frag} {mg mb : Str → Option Value} {k : Nat} {fa a : Addr} {fd : FuncData} {x : Str} {sp : Sp} {s1 : Shared} {vs : List Value} {ns : List Int} (hK : K.In s1.heap) (hG : s1.heap.Ns mainGlobals mg) (hB : s1.heap.Ns builtinsNs mb)
    (hBB : ∀ x : Str, x ≠ "__name__" → mb x = bootBuiltins x) (hL : s1.heap.NoLimit) (hgen : s1.gens = #[]) (ha : s1.heap.get? a = some { cls := .type "list", data := .seq vs.toArray }) (hi : IntsAre vs ns) (hl : ns.length ≤ sizeLine) (hr : Room k callerA)
    (F : ∀ base : Heap, K.In base → base.Ns mainGlobals mg → FnG P w K mg base k fa fd [x] sp) (hbind : ∀ (s : Shared) (u : Value), BindsTo s fd ⟨[u], []⟩ [(x, u)]) (hsp : ∀ H : Hp, (∀ b u, H b = some u → ∃ o, u = .frz o (.lst (ns.map V.int))) → SqL K H a (ns.map V.int) → sp [.ref a] H (fun v _ => v = .bl true) fun _ _ _ => False) :
    codeAny (model P w) callerA (.call (.ref fa) ⟨[.ref a], []⟩) (fun r s' => r = .ok (.ret (.bool true)) ∧ OldK s1.heap s'.heap ∧ s'.os = s1.os ∧ AllBare s'.gens) s1 := by
  have rel := vals_ints hi
  have hlen := hi.length
  generalize hob : ({ cls := .type "list", data := .seq vs.toArray } : Obj) = ob at ha
  have hdata : ob.data = .seq vs.toArray 0 := by rw [← hob]
  let H := only K a ob (ns.map V.int)
  have hH : ∀ {b u}, H b = some u → b = a ∧ K.lookup a = none ∧ u = .frz ob (.lst (ns.map V.int)) := fun h => only_some h
  have noDict : ∀ {b : Addr} {o : Obj} {es : Array DictEntry} {ep : Nat}, s1.heap.get? b = some o → o.data = .dict es ep → H b = none := by
    intro b o es ep e d
    cases q : H b with
    | none => rfl
    | some u =>
      obtain ⟨rfl, -, -⟩ := hH q
      rw [ha] at e
      cases e
      rw [hdata] at d
      cases d
  have keepNs : ∀ {b : Addr} {m : Str → Option Value}, s1.heap.Ns b m → (hidT s1.heap H).Ns b m := by
    rintro b m ⟨o, es, ep, e, d, r⟩
    exact ⟨o, es, ep, hidT_get e (noDict e d), d, r⟩
  have kIn : K.In (hidT s1.heap H) := by
    intro b o e
    refine hidT_get (hK b o e) ?_
    cases q : H b with
    | none => rfl
    | some u =>
      obtain ⟨rfl, z, -⟩ := hH q
      rw [z] at e; cases e
  have hok : HOk P w H s1.heap := by
    intro b u q
    obtain ⟨rfl, -, rfl⟩ := hH q
    refine ⟨ha, by rw [List.length_map]; exact hl, vs, 0, rel, ?_⟩
    rw [ha, ← hob]
  have hmod : Mod K mg (hidT s1.heap H) := ⟨kIn, keepNs hG, ⟨mb, keepNs hB, hBB⟩, by
    obtain ⟨mc, e1, e2⟩ := hL
    exact ⟨mc, keepNs e1, e2⟩⟩
  have env0 : Env0 P w K mg (hidT s1.heap H) callerA [] s1 H := ⟨rfl, hmod, fun b o e => of_hidT e, Nat.le_of_eq (hidT_size _ _), trivial, fun b hb => absurd hb (by simp [frs]), hok, .of_eq hgen⟩
  have hS : SqL K H a (ns.map V.int) := by
    cases q : K.lookup a with
    | none => exact .inl (.inr ⟨ob, by show only K a ob _ a = _; unfold only; rw [if_pos ⟨rfl, q⟩]⟩)
    | some o =>
      have e := hK a o q
      rw [ha] at e
      cases e
      subst hob
      exact .inr ⟨_, vs.toArray, 0, q, rfl, rfl, rfl, by rw [List.size_toArray, hlen]; exact hl, by simpa using rel⟩
  have run := (F _ kIn (keepNs hG)).run callerA [] s1 H ⟨[.ref a], []⟩ [.ref a] [.ref a] _ _ hr rfl env0 rfl (hbind s1 (.ref a)) (.cons rfl .nil) (hsp H (fun b u q => ⟨ob, (hH q).2.2⟩) hS)
  refine codeAny_mono run ?_
  intro r s' h
  cases r with
  | error e =>
    obtain ⟨_, _, _, _, _, _, _, _, _, _, _, _, z⟩ := h
    exact z.elim
  | ok fl =>
    cases fl with
    | next => exact h.elim
    | brk => exact h.elim
    | cont => exact h.elim
    | ret u =>
      obtain ⟨v, H', os, bare, un, hok', rv, q⟩ := h
      subst q
      cases rv
      refine ⟨rfl, OldK.of_keep fun b o e => ?_, os, bare⟩
      cases q : H b with
      | none => exact un.keep b o e q (by simp [frs]) (by simp)
      | some u =>
        obtain ⟨rfl, -, rfl⟩ := hH q
        obtain ⟨e2, -⟩ := hok' b _ (un.frzs b ob _ q)
        rw [ha] at e
        cases e
        exact e2
/-- a def of one parameter and no defaults binds at every heap -/
theorem bind0 {K : PySem.W.Frag} {d : Df} {fd : FuncData} (F : IsDf K d fd) (hp : simpleP d.params = true) (hd : d.dfl = []) (hs : srcNeed d 1 = true) (s : Shared) (u : Value) : BindsTo s fd ⟨[u], []⟩ (d.ps.zip [u]) := by
  obtain ⟨oc, od, dV, kV, dc, pm, an, cdv, ct, osl, rfl, lk, -, hD, -⟩ := F.ex
  have e0 : d.dvs K = [] := by unfold Df.dvs; rw [hd]; rfl
  rcases hD with ⟨-, rfl⟩ | ⟨z, -⟩
  · simp only [srcNeed, Bool.and_eq_true, beq_iff_eq, hd] at hs
    obtain ⟨h1, h2⟩ := hs
    obtain ⟨k, e1, e2⟩ := bind_gen (fd := PySem.W.fnOf d.name d.qual d.params d.body d.scope .none kV dc pm an cdv ct) (us := [u]) (ws := []) (ds := []) hp rfl h1 rfl
    refine BindsTo.of_eq ?_
    have e3 : bindArgs (PySem.W.fnOf d.name d.qual d.params d.body d.scope .none kV dc pm an cdv ct) ⟨[u], []⟩ = pure (d.ps.zip ((srcOf d.ps [] 1 0).map (pickV [u] [] []))) := by
      refine Eq.trans e1 ?_
      show (pure none >>= k) = _
      rw [pure_bind]
      exact e2 none rfl
    rw [e3]
    congr 2
    unfold srcOf
    rw [← h2]
    rfl
  · exact absurd e0 z
/-- the law's own place among the defs -/
theorem law_walk {Y : Txt} {l : PySem.W.OpenLaw} {m : Nat} {q : Program} {loose : List Str} {XP : (Str → Option Value) → Heap → Prop} {d : DefRec} {g : Nat} {dl : Df} {x : Str} (hn : l.most = some m) (hm : m ≤ sizeLine) (hdf : d.params.defaults = []) (depth : Nat) (hr : Room (4 * depth) callerA)
    (hd : Y.defs[g]? = some dl) (hat : dl.at_ = .glo d.name) (hps : dl.ps = [x]) (hdl : dl.dfl = []) (hsn : srcNeed dl 1 = true) (hb : Y.bodyB = true) (h1 : Y.stat = true) (h2 : Y.sig = true)
    (law : ∀ ns : List Int, ns.length ≤ m → ∃ S, callD Y.T depth g [.d (.scr ns)] [] = .ok (.d (.bl true)) S) : PySem.W.WalkO q loose XP (fun w h => ∃ K : PySem.W.Frag, K.In h ∧ Y.obs K = Y.val w) l.row.toRowW d [] (fun f vs => PySem.call f vs) := by
  refine Att.attach_call hn hdf fun w s₀ s₁ mg mb fa o pm cd doc a vs ns G YP ho hod hcd hmg hobj hints hlen hg => ?_
  obtain ⟨K, hK, hc⟩ := YP
  have L := lnk_of hK G.T.g hc
  obtain ⟨fd, F⟩ := L.def_ hd
  have efa : fa = pAd K dl.at_ := by
    have e := L.fnGlo hd hat
    rw [hmg] at e
    cases e; rfl
  subst efa
  obtain ⟨fn, hfn, q1, q2, -⟩ := sig_of h2 hd
  refine law_end (mb := mb) (x := x) (fd := fd) hK G.T.g G.T.b G.T.builtins G.T.nolimit hg hobj hints (Nat.le_trans hlen hm) hr (fun base kb gb => ?_) ?_ (sp := spG Y K w depth g) ?_
  · have Lb : Lnk Y K w mg := L
    have := all_defs (P := l.prog) (base := base) hb h1 h2 Lb depth g dl hd fd F
    rw [hps] at this
    exact this
  · intro s u
    have B := bind0 F q1 hdl hsn s u
    rw [hps] at B
    exact B
  · intro H hO hS
    obtain ⟨S, e⟩ := law ns hlen
    refine ⟨[.d (.scr ns)], [], [], RelS.empty, .cons ?_ .nil, ?_⟩
    · simp only [RepW, RepD]
      refine ⟨a, rfl, ?_⟩
      rcases hS with (hS | ⟨o, hS⟩) | hS
      · exact .inl ⟨_, hS, by simp, .inl rfl⟩
      · exact .inl ⟨_, hS, by simp, .inr ⟨o, rfl⟩⟩
      · exact .inr hS
    · rw [e]
      intro v H' al' st rs rv
      simpa only [RepW, RepD] using rv
end Ev
end
section
/-! EvK: the evaluator's equations, for simp. Printed by genk.py. Own work. -/
set_option linter.all false
set_option autoImplicit false
set_option maxRecDepth 100000
namespace Ev
variable (T : Tab) (Φ : Phi)
@[simp] theorem q1_evE {i env S} : evE T Φ (.var i) env S = R.of (slot env i) S := (rfl)
@[simp] theorem q2_evE {d u1 S} : evE T Φ (.con d) u1 S = .ok (.d d) S := (rfl)
@[simp] theorem q3_evE {x u1 S} : evE T Φ (.glo x) u1 S = (R.of (T.glob[x]?) S).bind fun d S => .ok (.d d) S := (rfl)
@[simp] theorem q4_evE {o a b env S} : evE T Φ (.bin o a b) env S = (evE T Φ a env S).bind fun x S1 => (evE T Φ b env S1).bind fun y S2 => match rd S2 x, rd S2 y with
    | some u, some v => (R.of (bin o u v) S2).bind fun z S => .ok (.d z) S
    | _, _ => .bad := (rfl)
@[simp] theorem q5_evE {a env S} : evE T Φ (.neg a) env S = (evE T Φ a env S).bind fun x S1 => (R.of ((rd S1 x).bind neg) S1).bind fun z S => .ok (.d z) S := (rfl)
@[simp] theorem q6_evE {a env S} : evE T Φ (.not a) env S = (evE T Φ a env S).bind fun x S1 => (asBl x S1).bind fun k S2 => .ok (.d (.bl (!k))) S2 := (rfl)
@[simp] theorem q7_evE {a b env S} : evE T Φ (.and a b) env S = (evE T Φ a env S).bind fun x S1 => (asBl x S1).bind fun k S2 => if k then evE T Φ b env S2 else .ok (.d (.bl false)) S2 := (rfl)
@[simp] theorem q8_evE {a b env S} : evE T Φ (.or a b) env S = (evE T Φ a env S).bind fun x S1 => (asBl x S1).bind fun k S2 => if k then .ok (.d (.bl true)) S2 else evE T Φ b env S2 := (rfl)
@[simp] theorem q9_evE {o a b env S} : evE T Φ (.cmp o a b) env S = (evE T Φ a env S).bind fun x S1 => (evE T Φ b env S1).bind fun y S2 => cmpW T Φ o x y S2 := (rfl)
@[simp] theorem q10_evE {o p a b c env S} : evE T Φ (.chn o p a b c) env S = (evE T Φ a env S).bind fun x S1 => (evE T Φ b env S1).bind fun y S2 => (cmpW T Φ o x y S2).bind fun r S3 => (asBl r S3).bind fun k S4 =>
      if k then (evE T Φ c env S4).bind fun z S5 => cmpW T Φ p y z S5 else .ok (.d (.bl false)) S4 := (rfl)
@[simp] theorem q11_evE {c a b env S} : evE T Φ (.ite c a b) env S = (evT T Φ c (evE T Φ c) env S).bind fun k S1 => if k then evE T Φ a env S1 else evE T Φ b env S1 := (rfl)
@[simp] theorem q12_evE {m es env S} : evE T Φ (.lst m es) env S = (evEs T Φ es env S).bind fun ws S1 => (R.of (dats ws) S1).bind fun xs S2 => fresh m xs S2 := (rfl)
@[simp] theorem q13_evE {es env S} : evE T Φ (.tup es) env S = (evEs T Φ es env S).bind fun ws S1 => (R.of (dats ws) S1).bind fun xs S2 => .ok (.d (.tup xs)) S2 := (rfl)
@[simp] theorem q14_evE {a i env S} : evE T Φ (.idx a i) env S = (evE T Φ a env S).bind fun x S1 => (evE T Φ i env S1).bind fun y S2 => match rd S2 x, rd S2 y with
    | some u, some v => (R.of (item u v) S2).bind fun z S => .ok (.d z) S
    | _, _ => .bad := (rfl)
@[simp] theorem q15_evE {a lo hi env S} : evE T Φ (.slc a lo hi) env S = (evE T Φ a env S).bind fun x S1 => (evO T Φ lo env S1).bind fun l S2 => (evO T Φ hi env S2).bind fun h S3 => (R.of ((rd S3 x).bind fun u => slice u l h) S3).bind fun z S => .ok (.d z) S := (rfl)
@[simp] theorem q16_evE {a f env S} : evE T Φ (.att a f) env S = (evE T Φ a env S).bind fun x S1 => attR T Φ x f S1 := (rfl)
@[simp] theorem q17_evE {g es ks sp env S} : evE T Φ (.call g es ks sp) env S = (evEs T Φ es env S).bind fun ws S1 => (evEs T Φ ks env S1).bind fun zs S2 => (R.of (argsW T g sp ws zs) S2).bind fun fs S3 => Φ g fs S3 := (rfl)
@[simp] theorem q18_evE {c es ks sp env S} : evE T Φ (.make c es ks sp) env S = (evEs T Φ es env S).bind fun ws S1 => (evEs T Φ ks env S1).bind fun zs S2 => match T.cls[c]? with
    | some k => (R.of (argsW T k.init sp (.loc S2.length :: ws) zs) S2).bind fun fs S3 => (Φ k.init fs (S3 ++ [.ins c []])).bind fun r S4 => match r with
      | .d .non => .ok (.loc S3.length) S4
      | _ => .bad
    | none => .bad := (rfl)
@[simp] theorem q19_evE {a m es ks sp env S} : evE T Φ (.meth a m es ks sp) env S = (evE T Φ a env S).bind fun x S1 => match methOf T S1 x m with
    | some g => (evEs T Φ es env S1).bind fun ws S2 => (evEs T Φ ks env S2).bind fun zs S3 => (R.of (argsW T g sp (x :: ws) zs) S3).bind fun fs S4 => Φ g fs S4
    | none => .bad := (rfl)
@[simp] theorem q20_evE {b es env S} : evE T Φ (.bi b es) env S = (evEs T Φ es env S).bind fun ws S1 => biW T Φ b ws S1 := (rfl)
@[simp] theorem q21_evE {m a es env S} : evE T Φ (.bm m a es) env S = (evE T Φ a env S).bind fun x S1 => if bmK m x then (evEs T Φ es env S1).bind fun ws S2 => match rd S2 x, rds S2 ws with
    | some u, some vs => (R.of (bm m u vs) S2).bind fun z S => .ok (.d z) S
    | _, _ => .bad else .bad := (rfl)
@[simp] theorem q22_evE {m a es env S} : evE T Φ (.mu m a es) env S = (evE T Φ a env S).bind fun x S1 => if isLs S1 x then (evEs T Φ es env S1).bind fun ws S2 => (R.of (dats ws) S2).bind fun ys S3 => muR m x ys S3 else .bad := (rfl)
@[simp] theorem q23_evE {a ks env S} : evE T Φ (.isi a ks) env S = (evE T Φ a env S).bind fun x S1 => match tagW T S1 x with
    | some g => .ok (.d (.bl (ks.any (isK T g)))) S1
    | none => .bad := (rfl)
@[simp] theorem q24_evE {m it env S} : evE T Φ (.lof m it) env S = (evI T Φ it env S).bind fun xs S1 => if xs.length ≤ lim then fresh m xs S1 else .bad := (rfl)
@[simp] theorem q25_evE {a env S} : evE T Φ (.thaw a) env S = (evE T Φ a env S).bind fun w S1 => (R.of (seqD S1 w) S1).bind fun xs S2 => fresh true xs S2 := (rfl)
@[simp] theorem q26_evE {a env S} : evE T Φ (.rev a) env S = (evE T Φ a env S).bind fun w S1 => match rd S1 w with
    | some (.lst xs) => .ok (.d (.lst xs.reverse)) S1
    | some (.str z) => .ok (.d (.str z.reverse)) S1
    | _ => .bad := (rfl)
@[simp] theorem q27_evE {a b env S} : evE T Φ (.addL a b) env S = (evE T Φ a env S).bind fun x S1 => (evE T Φ b env S1).bind fun y S2 => match rd S2 x, rd S2 y with
    | some (.lst xs), some (.lst ys) => if xs.length + ys.length ≤ lim then fresh true (xs ++ ys) S2 else .bad
    | _, _ => .bad := (rfl)
@[simp] theorem q28_evE {m ks vs env S} : evE T Φ (.dsp m ks vs) env S = (evEs T Φ vs env (S ++ [.dic [] []])).bind fun ws S1 => (R.of (dats ws) S1).bind fun xs S2 => accD m S.length ks xs S2 := (rfl)
@[simp] theorem q29_evE {a env S} : evE T Φ (.dcp a) env S = (evE T Φ a env S).bind fun w S1 => match w with
    | .loc k => (match S1[k]? with
      | some (.dic ks vs) => if ks.length = vs.length ∧ ks.length ≤ lim ∧ nodupK ks = true then .ok (.loc S1.length) (S1 ++ [.dic ks vs]) else .bad
      | _ => .bad)
    | _ => .bad := (rfl)
@[simp] theorem q_cmpr {m elt tg it cs own env S} : evE T Φ (.cmpr m elt tg it cs own) env S = (evI T Φ it env S).bind fun xs S1 => (accR (fun x S => match bindN tg x (wipe own env) with
      | none => .bad
      | some e => (evC T Φ cs e S).bind fun k S1 => if k then (evE T Φ elt e S1).bind fun w S2 => match w with
        | .d y => .ok (some y) S2
        | .loc _ => .bad else .ok none S1) S1.length xs (S1 ++ [.hid []])).noex.bind fun _ S2 => accE m S1.length S2 := (rfl)
@[simp] theorem q31_evE {ps env S} : evE T Φ (.fst ps) env S = (evJ T Φ ps [] env S).bind fun s S1 => .ok (.d (.str s)) S1 := (rfl)
@[simp] theorem q32_evE {a env S} : evE T Φ (.fmt a) env S = (evE T Φ a env S).bind fun x S1 => (R.of ((rd S1 x).bind fmtD) S1).bind fun z S => .ok (.d z) S := (rfl)
@[simp] theorem q33_evE {a env S} : evE T Φ (.fmr a) env S = (evE T Φ a env S).bind fun x S1 => (R.of ((rd S1 x).bind fmrD) S1).bind fun z S => .ok (.d z) S := (rfl)
@[simp] theorem q34_evE {a env S} : evE T Φ (.frz a) env S = (evE T Φ a env S).bind fun x S1 => coldAt T S.length x S1 := (rfl)
@[simp] theorem q35_evE {a m env S} : evE T Φ (.lenO a m) env S = (evE T Φ a env S).bind fun x S1 => match specM T S1 x m with
    | some g => (Φ g [x] S1).noex.bind asLen
    | none => .bad := (rfl)
@[simp] theorem q36_evE {a m e env S} : evE T Φ (.callO a m e) env S = (evE T Φ a env S).bind fun x S1 => match x with
    | .d (.ins cc xs) => (match specM T S1 (.d (.ins cc xs)) m with
      | some g => (evE T Φ e env S1).bind fun y S2 => Φ g [.d (.ins cc xs), y] S2
      | none => .bad)
    | _ => .bad := (rfl)
@[simp] theorem q_cmprL {m elt tg a cs own env S} : evE T Φ (.cmprL m elt tg a cs own) env S = (evE T Φ a env S).bind fun w S1 => match w with
    | .loc k => (match S1[k]? with
      | some (.lst xs) => (accL (fun x S => match bindN tg x (wipe own env) with
        | none => .bad
        | some e => (evC T Φ cs e S).bind fun b S1 => if b then (evE T Φ elt e S1).bind fun w S2 => match w with
          | .d y => .ok (some y) S2
          | .loc _ => .bad else .ok none S1) S1.length k xs.length 0 (S1 ++ [.hid []])).noex.bind fun _ S2 => accE m S1.length S2
      | _ => .bad)
    | _ => .bad := (rfl)
@[simp] theorem q38_evT {a u1 env S} : evT T Φ (.not a) u1 env S = (evT T Φ a (evE T Φ a) env S).bind fun k S1 => .ok (!k) S1 := (rfl)
@[simp] theorem q39_evT {a b u1 env S} : evT T Φ (.and a b) u1 env S = (evT T Φ a (evE T Φ a) env S).bind fun k S1 => if k then evT T Φ b (evE T Φ b) env S1 else .ok false S1 := (rfl)
@[simp] theorem q40_evT {a b u1 env S} : evT T Φ (.or a b) u1 env S = (evT T Φ a (evE T Φ a) env S).bind fun k S1 => if k then .ok true S1 else evT T Φ b (evE T Φ b) env S1 := (rfl)
@[simp] theorem q41_evT {c a b u1 env S} : evT T Φ (.ite c a b) u1 env S = (evT T Φ c (evE T Φ c) env S).bind fun k S1 => if k then evT T Φ a (evE T Φ a) env S1 else evT T Φ b (evE T Φ b) env S1 := (rfl)
@[simp] theorem q42_evEs {u1 S} : evEs T Φ (.nil) u1 S = .ok [] S := (rfl)
@[simp] theorem q43_evEs {e es env S} : evEs T Φ (.cons e es) env S = (evE T Φ e env S).bind fun w S1 => (evEs T Φ es env S1).bind fun ws S2 => .ok (w :: ws) S2 := (rfl)
@[simp] theorem q44_evJ {acc u2 S} : evJ T Φ (.nil) acc u2 S = .ok acc S := (rfl)
@[simp] theorem q45_evJ {e es acc env S} : evJ T Φ (.cons e es) acc env S = (evE T Φ e env S).bind fun w S1 => match w with
    | .d (.str s) => if acc.length + s.length ≤ lim then evJ T Φ es (acc ++ s) env S1 else .bad
    | _ => .bad := (rfl)
@[simp] theorem q46_evO {u1 S} : evO T Φ (.no) u1 S = .ok none S := (rfl)
@[simp] theorem q47_evO {e env S} : evO T Φ (.so e) env S = (evE T Φ e env S).bind fun w S1 => match rd S1 w with
    | some (.int i) => .ok (some i) S1
    | _ => .bad := (rfl)
@[simp] theorem q48_evC {u1 S} : evC T Φ (.no) u1 S = .ok true S := (rfl)
@[simp] theorem q49_evC {e env S} : evC T Φ (.so e) env S = evT T Φ e (evE T Φ e) env S := (rfl)
@[simp] theorem q50_evI {a env S} : evI T Φ (.seq a) env S = (evE T Φ a env S).bind fun w S1 => match w with
    | .d x => R.of (items x) S1
    | _ => .bad := (rfl)
@[simp] theorem q51_evI {a env S} : evI T Φ (.rng1 a) env S = (evE T Φ a env S).bind fun w S1 => match w with
    | .d (.int j) => if rngOk j then .ok (intRange 0 j) S1 else .bad
    | _ => .bad := (rfl)
@[simp] theorem q52_evI {a b env S} : evI T Φ (.rng2 a b) env S = (evE T Φ a env S).bind fun v S1 => (evE T Φ b env S1).bind fun w S2 => match v, w with
    | .d (.int i), .d (.int j) => if rngOk i && rngOk j then .ok (intRange i j) S2 else .bad
    | _, _ => .bad := (rfl)
@[simp] theorem q53_evI {a b env S} : evI T Φ (.rngB a b) env S = (evE T Φ a env S).bind fun v S1 => (evE T Φ b env S1).bind fun w S2 => match v, w with
    | .d (.int i), .d (.int j) => .ok (intRange i j) S2
    | _, _ => .bad := (rfl)
@[simp] theorem q54_evI {a env S} : evI T Φ (.enu a) env S = (evE T Φ a env S).bind fun w S1 => match w with
    | .d (.lst xs) => .ok (enumD xs) S1
    | .d (.tup xs) => .ok (enumD xs) S1
    | _ => .bad := (rfl)
@[simp] theorem q55_evI {a b env S} : evI T Φ (.zip a b) env S = (evE T Φ a env S).bind fun v S1 => (evE T Φ b env S1).bind fun w S2 => match v, w with
    | .d (.lst xs), .d (.lst ys) => .ok (zipD xs ys) S2
    | .d (.tup xs), .d (.tup ys) => .ok (zipD xs ys) S2
    | _, _ => .bad := (rfl)
@[simp] theorem q56_evI {a b e env S} : evI T Φ (.rng3 a b e) env S = (evE T Φ a env S).bind fun u S1 => (evE T Φ b env S1).bind fun v S2 => (evE T Φ e env S2).bind fun w S3 => match u, v, w with
    | .d (.int i), .d (.int j), .d (.int c) => if rngOk i && rngOk j && (decide (0 < c) && decide (c < 1000)) then .ok (stepRange i j c) S3 else .bad
    | _, _, _ => .bad := (rfl)
@[simp] theorem q57_evTg {i w env S} : evTg T Φ (.name i) w env S = if i < env.length then .ok (env.set i (some w)) S else .bad := (rfl)
@[simp] theorem q58_evTg {a i w env S} : evTg T Φ (.sub a i) w env S = (evE T Φ a env S).bind fun o S1 => (evE T Φ i env S1).bind fun k S2 => match o, k, w with
    | .loc n, .d k, .d x => (match S2[n]? with
      | some (.lst xs) => (match k with
        | .int j => (match ixN xs.length j with
          | some q => .ok env (S2.set n (.lst (xs.set q x)))
          | none => .bad)
        | _ => .bad)
      | some (.dic ks vs) => if isKey k = true ∧ ks.length < lim then .ok env (S2.set n (.dic (putD ks vs k x).1 (putD ks vs k x).2)) else .bad
      | _ => .bad)
    | _, _, _ => .bad := (rfl)
@[simp] theorem q59_evTgs {env S} : evTgs T Φ [] [] env S = .ok env S := (rfl)
@[simp] theorem q60_evTgs {t ts x xs env S} : evTgs T Φ (t :: ts) (x :: xs) env S = (evTg T Φ t (.d x) env S).bind fun e S1 => evTgs T Φ ts xs e S1 := (rfl)
@[simp] theorem q61_evS (n0 : Nat) {tg e env S} : evS T Φ n0 (.asg tg e) env S = ((evE T Φ e env S).bind fun w S1 => evTg T Φ tg w env S1).bindX env fun e S2 => .ok (.nx e) S2 := (rfl)
@[simp] theorem q62_evS (n0 : Nat) {ts e env S} : evS T Φ n0 (.unp ts e) env S = (evE T Φ e env S).bindX env fun w S1 => match w with
    | .d (.tup xs) => (evTgs T Φ ts xs env S1).noex.bindX env fun e S2 => .ok (.nx e) S2
    | .d (.lst xs) => (evTgs T Φ ts xs env S1).noex.bindX env fun e S2 => .ok (.nx e) S2
    | _ => .bad := (rfl)
@[simp] theorem q63_evS (n0 : Nat) {ts e env S} : evS T Φ n0 (.unn ts e) env S = (evE T Φ e env S).bindX env fun w S1 => match w with
    | .d x => (R.of (bindN (.tup ts) x env) S1).bindX env fun e S2 => .ok (.nx e) S2
    | _ => .bad := (rfl)
@[simp] theorem q64_evS (n0 : Nat) {is es env S} : evS T Φ n0 (.par is es) env S = ((evEs T Φ es env S).bind fun ws S1 => R.of (setPar is ws env) S1).bindX env fun e S2 => .ok (.nx e) S2 := (rfl)
@[simp] theorem q65_evS (n0 : Nat) {is es env S} : evS T Φ n0 (.pat is es) env S = ((evEs T Φ es env S).bind fun ws S1 => R.of (setPar is ws env) S1).bindX env fun e S2 => .ok (.nx e) S2 := (rfl)
@[simp] theorem q66_evS (n0 : Nat) {a f e env S} : evS T Φ n0 (.satt a f e) env S = ((evE T Φ e env S).bind fun w S1 => (evE T Φ a env S1).bind fun o S2 => match o, w with
    | .loc n, .d x => (match S2[n]? with
      | some (.ins c fs) => if sattOk T c f fs then .ok env (S2.set n (.ins c (setF fs f x))) else .bad
      | _ => .bad)
    | _, _ => .bad).bindX env fun e S2 => .ok (.nx e) S2 := (rfl)
@[simp] theorem q67_evS (n0 : Nat) {i o e env S} : evS T Φ n0 (.aug i o e) env S = (match slot env i with
    | none => .bad
    | some x => (evE T Φ e env S).bind fun y S1 => match x, y with
      | .d u, .d v => (R.of (binI o u v) S1).bind fun z S2 => .ok (env.set i (some (.d z))) S2
      | _, _ => .bad : R Env).bindX env fun e S2 => .ok (.nx e) S2 := (rfl)
@[simp] theorem q68_evS (n0 : Nat) {e env S} : evS T Φ n0 (.expr e) env S = (evE T Φ e env S).bindX env fun _ S1 => .ok (.nx env) S1 := (rfl)
@[simp] theorem q69_evS (n0 : Nat) {c a b env S} : evS T Φ n0 (.ite c a b) env S = (evT T Φ c (evE T Φ c) env S).bindX env fun k S1 => if k then evSs T Φ n0 a env S1 else evSs T Φ n0 b env S1 := (rfl)
@[simp] theorem q_loop (n0 : Nat) {tg it body env S} : evS T Φ n0 (.loop tg it body) env S = (evI T Φ it env S).bindX env fun xs S1 => loopR (fun x env S => match bindN tg x env with
      | some e => evSs T Φ n0 body e S
      | none => .bad) xs env S1 := (rfl)
@[simp] theorem q71_evS (n0 : Nat) {en tg a body env S} : evS T Φ n0 (.loopL en tg a body) env S = (evE T Φ a env S).bindX env fun w S1 => match w with
    | .d (.lst xs) => loopR (fun x env S => match bindN tg x env with
      | some e => evSs T Φ n0 body e S
      | none => .bad) (if en then enumD xs else xs) env S1
    | .d (.tup xs) => loopR (fun x env S => match bindN tg x env with
      | some e => evSs T Φ n0 body e S
      | none => .bad) (if en then enumD xs else xs) env S1
    | .loc k => if k < n0 then (match S1[k]? with
      | some (.lst xs) => liveR en (fun x env S => match bindN tg x env with
        | some e => evSs T Φ n0 body e S
        | none => .bad) k xs.length 0 env S1
      | _ => .bad) else .bad
    | _ => .bad := (rfl)
@[simp] theorem q72_evS (n0 : Nat) {c body env S} : evS T Φ n0 (.whil c body) env S = whileR (fun env S => evT T Φ c (evE T Φ c) env S) (fun env S => evSs T Φ n0 body env S) env S := (rfl)
@[simp] theorem q73_evS (n0 : Nat) {e env S} : evS T Φ n0 (.ret e) env S = (evE T Φ e env S).bindX env fun w S1 => .ok (.rt w) S1 := (rfl)
@[simp] theorem q74_evS (n0 : Nat) {u1 S} : evS T Φ n0 (.retN) u1 S = .ok (.rt (.d .non)) S := (rfl)
@[simp] theorem q75_evS (n0 : Nat) {v0_1 v0_2 u1 u2} : evS T Φ n0 (.rais v0_1 v0_2) u1 u2 = .bad := (rfl)
@[simp] theorem q76_evS (n0 : Nat) {env S} : evS T Φ n0 (.pass) env S = .ok (.nx env) S := (rfl)
@[simp] theorem q77_evS (n0 : Nat) {env S} : evS T Φ n0 (.brk) env S = .ok (.bk env) S := (rfl)
@[simp] theorem q78_evS (n0 : Nat) {env S} : evS T Φ n0 (.cnt) env S = .ok (.ct env) S := (rfl)
@[simp] theorem q79_evSs (n0 : Nat) {env S} : evSs T Φ n0 (.nil) env S = .ok (.nx env) S := (rfl)
@[simp] theorem q80_evSs (n0 : Nat) {s r env S} : evSs T Φ n0 (.cons s r) env S = (evS T Φ n0 s env S).bind fun fl S1 => match fl with
    | .nx e => evSs T Φ n0 r e S1
    | .rt w => .ok (.rt w) S1
    | .bk e => .ok (.bk e) S1
    | .ct e => .ok (.ct e) S1
    | .ex c vs e => .ok (.ex c vs e) S1 := (rfl)
@[simp] theorem q81_evSs (n0 : Nat) {i r env S} : evSs T Φ n0 (.frz i r) env S = match slot env i with
    | some (.loc m) => if n0 ≤ m ∧ S.length = m + 1 ∧ (env.set i none).all (fun w => match w with | some (.loc k) => decide (k < m) | _ => true) then
        (match (S[m]?).bind (cold T) with
        | some x => evSs T Φ n0 r (env.set i (some (.d x))) (S.take m)
        | none => .bad) else .bad
    | _ => .bad := (rfl)
@[simp] theorem qt_var {i wh env S} : evT T Φ (.var i) wh env S = (wh env S).bind fun x S1 => R.of ((rd S1 x).bind truth) S1 := (rfl)
@[simp] theorem qt_con {d wh env S} : evT T Φ (.con d) wh env S = (wh env S).bind fun x S1 => R.of ((rd S1 x).bind truth) S1 := (rfl)
@[simp] theorem qt_glo {x wh env S} : evT T Φ (.glo x) wh env S = (wh env S).bind fun x S1 => R.of ((rd S1 x).bind truth) S1 := (rfl)
@[simp] theorem qt_bin {o a b wh env S} : evT T Φ (.bin o a b) wh env S = (wh env S).bind fun x S1 => R.of ((rd S1 x).bind truth) S1 := (rfl)
@[simp] theorem qt_neg {a wh env S} : evT T Φ (.neg a) wh env S = (wh env S).bind fun x S1 => R.of ((rd S1 x).bind truth) S1 := (rfl)
@[simp] theorem qt_cmp {o a b wh env S} : evT T Φ (.cmp o a b) wh env S = (wh env S).bind fun x S1 => R.of ((rd S1 x).bind truth) S1 := (rfl)
@[simp] theorem qt_chn {o p a b c wh env S} : evT T Φ (.chn o p a b c) wh env S = (wh env S).bind fun x S1 => R.of ((rd S1 x).bind truth) S1 := (rfl)
@[simp] theorem qt_lst {m es wh env S} : evT T Φ (.lst m es) wh env S = (wh env S).bind fun x S1 => R.of ((rd S1 x).bind truth) S1 := (rfl)
@[simp] theorem qt_tup {es wh env S} : evT T Φ (.tup es) wh env S = (wh env S).bind fun x S1 => R.of ((rd S1 x).bind truth) S1 := (rfl)
@[simp] theorem qt_idx {a i wh env S} : evT T Φ (.idx a i) wh env S = (wh env S).bind fun x S1 => R.of ((rd S1 x).bind truth) S1 := (rfl)
@[simp] theorem qt_slc {a lo hi wh env S} : evT T Φ (.slc a lo hi) wh env S = (wh env S).bind fun x S1 => R.of ((rd S1 x).bind truth) S1 := (rfl)
@[simp] theorem qt_att {a f wh env S} : evT T Φ (.att a f) wh env S = (wh env S).bind fun x S1 => R.of ((rd S1 x).bind truth) S1 := (rfl)
@[simp] theorem qt_call {g es ks sp wh env S} : evT T Φ (.call g es ks sp) wh env S = (wh env S).bind fun x S1 => R.of ((rd S1 x).bind truth) S1 := (rfl)
@[simp] theorem qt_make {g es ks sp wh env S} : evT T Φ (.make g es ks sp) wh env S = (wh env S).bind fun x S1 => R.of ((rd S1 x).bind truth) S1 := (rfl)
@[simp] theorem qt_meth {a m es ks sp wh env S} : evT T Φ (.meth a m es ks sp) wh env S = (wh env S).bind fun x S1 => R.of ((rd S1 x).bind truth) S1 := (rfl)
@[simp] theorem qt_bi {b es wh env S} : evT T Φ (.bi b es) wh env S = (wh env S).bind fun x S1 => R.of ((rd S1 x).bind truth) S1 := (rfl)
@[simp] theorem qt_bm {m a es wh env S} : evT T Φ (.bm m a es) wh env S = (wh env S).bind fun x S1 => R.of ((rd S1 x).bind truth) S1 := (rfl)
@[simp] theorem qt_mu {m a es wh env S} : evT T Φ (.mu m a es) wh env S = (wh env S).bind fun x S1 => R.of ((rd S1 x).bind truth) S1 := (rfl)
@[simp] theorem qt_isi {a ks wh env S} : evT T Φ (.isi a ks) wh env S = (wh env S).bind fun x S1 => R.of ((rd S1 x).bind truth) S1 := (rfl)
@[simp] theorem qt_lof {m it wh env S} : evT T Φ (.lof m it) wh env S = (wh env S).bind fun x S1 => R.of ((rd S1 x).bind truth) S1 := (rfl)
@[simp] theorem qt_thaw {a wh env S} : evT T Φ (.thaw a) wh env S = (wh env S).bind fun x S1 => R.of ((rd S1 x).bind truth) S1 := (rfl)
@[simp] theorem qt_rev {a wh env S} : evT T Φ (.rev a) wh env S = (wh env S).bind fun x S1 => R.of ((rd S1 x).bind truth) S1 := (rfl)
@[simp] theorem qt_addL {a b wh env S} : evT T Φ (.addL a b) wh env S = (wh env S).bind fun x S1 => R.of ((rd S1 x).bind truth) S1 := (rfl)
@[simp] theorem qt_dsp {m ks es wh env S} : evT T Φ (.dsp m ks es) wh env S = (wh env S).bind fun x S1 => R.of ((rd S1 x).bind truth) S1 := (rfl)
@[simp] theorem qt_dcp {a wh env S} : evT T Φ (.dcp a) wh env S = (wh env S).bind fun x S1 => R.of ((rd S1 x).bind truth) S1 := (rfl)
@[simp] theorem qt_cmpr {m elt tg it cs own wh env S} : evT T Φ (.cmpr m elt tg it cs own) wh env S = (wh env S).bind fun x S1 => R.of ((rd S1 x).bind truth) S1 := (rfl)
@[simp] theorem qt_cmprL {m elt tg a cs own wh env S} : evT T Φ (.cmprL m elt tg a cs own) wh env S = (wh env S).bind fun x S1 => R.of ((rd S1 x).bind truth) S1 := (rfl)
@[simp] theorem qt_fst {ps wh env S} : evT T Φ (.fst ps) wh env S = (wh env S).bind fun x S1 => R.of ((rd S1 x).bind truth) S1 := (rfl)
@[simp] theorem qt_fmt {a wh env S} : evT T Φ (.fmt a) wh env S = (wh env S).bind fun x S1 => R.of ((rd S1 x).bind truth) S1 := (rfl)
@[simp] theorem qt_fmr {a wh env S} : evT T Φ (.fmr a) wh env S = (wh env S).bind fun x S1 => R.of ((rd S1 x).bind truth) S1 := (rfl)
@[simp] theorem qt_frz {a wh env S} : evT T Φ (.frz a) wh env S = (wh env S).bind fun x S1 => R.of ((rd S1 x).bind truth) S1 := (rfl)
@[simp] theorem qt_lenO {a m wh env S} : evT T Φ (.lenO a m) wh env S = (wh env S).bind fun x S1 => R.of ((rd S1 x).bind truth) S1 := (rfl)
@[simp] theorem qt_callO {a m e wh env S} : evT T Φ (.callO a m e) wh env S = (wh env S).bind fun x S1 => R.of ((rd S1 x).bind truth) S1 := (rfl)
section
variable {T Φ}
@[simp] theorem rd_d {S : Store} {x : D} : rd S (.d x) = some x := (rfl)
@[simp] theorem asBl_bl {S : Store} {b : Bool} : asBl (.d (.bl b)) S = .ok b S := (rfl)
@[simp] theorem fin_rt {k : Nat} {x : D} {S : Store} : fin k (.ok (.rt (.d x)) S) = .ok (.d x) (S.take k) := (rfl)
@[simp] theorem fin_nx {k : Nat} {e : Env} {S : Store} : fin k (.ok (.nx e) S) = .ok (.d .non) (S.take k) := (rfl)
@[simp] theorem slot_z {w : Option W} {e : Env} : slot (w :: e) 0 = w := by cases w <;> rfl
@[simp] theorem slot_s {w : Option W} {e : Env} {i : Nat} : slot (w :: e) (i + 1) = slot e i := (rfl)
@[simp] theorem cmpW_int {o : COp} {i : Int} {y : D} {S : Store} : cmpW T Φ o (.d (.int i)) (.d y) S = (R.of (cmp o (.int i) y) S).bind fun z S => .ok (.d z) S := by cases o <;> rfl
@[simp] theorem cmpW_str {o : COp} {i : Tx} {y : D} {S : Store} : cmpW T Φ o (.d (.str i)) (.d y) S = (R.of (cmp o (.str i) y) S).bind fun z S => .ok (.d z) S := by cases o <;> rfl
@[simp] theorem cmpW_lst {o : COp} {i : List D} {y : D} {S : Store} : cmpW T Φ o (.d (.lst i)) (.d y) S = (R.of (cmp o (.lst i) y) S).bind fun z S => .ok (.d z) S := by cases o <;> rfl
@[simp] theorem cmpW_tup {o : COp} {i : List D} {y : D} {S : Store} : cmpW T Φ o (.d (.tup i)) (.d y) S = (R.of (cmp o (.tup i) y) S).bind fun z S => .ok (.d z) S := by cases o <;> rfl
@[simp] theorem cmpW_dbl {o : COp} {i : Bool} {y : D} {S : Store} : cmpW T Φ o (.d (.bl i)) (.d y) S = (R.of (cmp o (.bl i) y) S).bind fun z S => .ok (.d z) S := by cases o <;> rfl
@[simp] theorem cmpW_non {o : COp} {y : D} {S : Store} : cmpW T Φ o (.d .non) (.d y) S = (R.of (cmp o .non y) S).bind fun z S => .ok (.d z) S := by cases o <;> rfl
@[simp] theorem biW_int {b : Bi} {i : Int} {ws : List W} {S : Store} : biW T Φ b (.d (.int i) :: ws) S = (R.of ((rds S (.d (.int i) :: ws)).bind (bi b)) S).bind fun z S => .ok (.d z) S := by cases b <;> cases ws <;> rfl
@[simp] theorem biW_str {b : Bi} {i : Tx} {ws : List W} {S : Store} : biW T Φ b (.d (.str i) :: ws) S = (R.of ((rds S (.d (.str i) :: ws)).bind (bi b)) S).bind fun z S => .ok (.d z) S := by cases b <;> cases ws <;> rfl
@[simp] theorem biW_bl {b : Bi} {i : Bool} {ws : List W} {S : Store} : biW T Φ b (.d (.bl i) :: ws) S = (R.of ((rds S (.d (.bl i) :: ws)).bind (bi b)) S).bind fun z S => .ok (.d z) S := by cases b <;> cases ws <;> rfl
@[simp] theorem biW_lst {b : Bi} {i : List D} {ws : List W} {S : Store} : biW T Φ b (.d (.lst i) :: ws) S = (R.of ((rds S (.d (.lst i) :: ws)).bind (bi b)) S).bind fun z S => .ok (.d z) S := by cases b <;> cases ws <;> rfl
@[simp] theorem biW_tup {b : Bi} {i : List D} {ws : List W} {S : Store} : biW T Φ b (.d (.tup i) :: ws) S = (R.of ((rds S (.d (.tup i) :: ws)).bind (bi b)) S).bind fun z S => .ok (.d z) S := by cases b <;> cases ws <;> rfl
@[simp] theorem biW_scr {b : Bi} {i : List Int} {ws : List W} {S : Store} : biW T Φ b (.d (.scr i) :: ws) S = (R.of ((rds S (.d (.scr i) :: ws)).bind (bi b)) S).bind fun z S => .ok (.d z) S := by cases b <;> cases ws <;> rfl
@[simp] theorem b_add {i j : Int} : bin .add (.int i) (.int j) = some (.int (i + j)) := (rfl)
@[simp] theorem b_sub {i j : Int} : bin .sub (.int i) (.int j) = some (.int (i - j)) := (rfl)
@[simp] theorem b_mul {i j : Int} : bin .mul (.int i) (.int j) = if mulOk i j then some (.int (i * j)) else none := (rfl)
@[simp] theorem b_fdiv {i j : Int} : bin .fdiv (.int i) (.int j) = if divOk j then some (.int (i.fdiv j)) else none := (rfl)
@[simp] theorem b_mod {i j : Int} : bin .mod (.int i) (.int j) = if j ≠ 0 then some (.int (i.fmod j)) else none := (rfl)
@[simp] theorem b_pow {i j : Int} : bin .pow (.int i) (.int j) = if 0 ≤ j ∧ j ≤ 10000 ∧ i.natAbs < 2 ^ 64 then some (.int (i ^ j.toNat)) else none := (rfl)
@[simp] theorem b_adds {s t : Tx} : bin .add (.str s) (.str t) = if s.length + t.length ≤ lim then some (.str (s ++ t)) else none := (rfl)
@[simp] theorem b_addl {s t : List D} : bin .add (.lst s) (.lst t) = if s.length + t.length ≤ lim then some (.lst (s ++ t)) else none := (rfl)
@[simp] theorem b_muls {s : Tx} {k : Int} : bin .mul (.str s) (.int k) = if s.length * k.toNat ≤ lim ∧ -(2 ^ 63) ≤ k ∧ k < 2 ^ 63 then some (.str (repL s k.toNat)) else none := (rfl)
@[simp] theorem b_mull {s : List D} {k : Int} : bin .mul (.lst s) (.int k) = if s.length * k.toNat ≤ lim ∧ -(2 ^ 63) ≤ k ∧ k < 2 ^ 63 then some (.lst (repL s k.toNat)) else none := (rfl)
@[simp] theorem k_lt {i j : Int} : cmp .lt (.int i) (.int j) = some (.bl (decide (i < j))) := (rfl)
@[simp] theorem k_le {i j : Int} : cmp .le (.int i) (.int j) = some (.bl (decide (i ≤ j))) := (rfl)
@[simp] theorem k_gt {i j : Int} : cmp .gt (.int i) (.int j) = some (.bl (decide (j < i))) := (rfl)
@[simp] theorem k_ge {i j : Int} : cmp .ge (.int i) (.int j) = some (.bl (decide (j ≤ i))) := (rfl)
@[simp] theorem k_eqs {i j : Tx} : cmp .eq (.str i) (.str j) = some (.bl (i == j)) := (rfl)
@[simp] theorem k_nes {i j : Tx} : cmp .ne (.str i) (.str j) = some (.bl (!(i == j))) := (rfl)
@[simp] theorem k_eqi {i j : Int} : cmp .eq (.int i) (.int j) = some (.bl (i == j)) := (rfl)
@[simp] theorem k_nei {i j : Int} : cmp .ne (.int i) (.int j) = some (.bl (!(i == j))) := (rfl)
@[simp] theorem it_s {s : Tx} {i : Int} : item (.str s) (.int i) = (atI s i).map fun c => .str [c] := (rfl)
@[simp] theorem it_l {s : List D} {i : Int} : item (.lst s) (.int i) = atI s i := (rfl)
@[simp] theorem it_t {s : List D} {i : Int} : item (.tup s) (.int i) = atI s i := (rfl)
@[simp] theorem it_d {ks vs : List D} {z : Tx} : item (.dic ks vs) (.str z) = lookD ks vs z := (rfl)
@[simp] theorem it_di {ks vs : List D} {z : Int} : item (.dic ks vs) (.int z) = lookI ks vs z := (rfl)
@[simp] theorem it_r {s : List Int} {i : Int} : item (.scr s) (.int i) = (atI s i).map .int := (rfl)
@[simp] theorem sl_s {s : Tx} {lo hi : Option Int} : slice (.str s) lo hi = some (.str (cut s lo hi)) := (rfl)
@[simp] theorem sl_l {s : List D} {lo hi : Option Int} : slice (.lst s) lo hi = some (.lst (cut s lo hi)) := (rfl)
@[simp] theorem sl_t {s : List D} {lo hi : Option Int} : slice (.tup s) lo hi = some (.tup (cut s lo hi)) := (rfl)
@[simp] theorem tr_bl {b : Bool} : truth (.bl b) = some b := (rfl)
@[simp] theorem f_lens {s : Tx} : bi .len [.str s] = some (.int (s.length : Nat)) := (rfl)
@[simp] theorem f_lenl {s : List D} : bi .len [.lst s] = some (.int (s.length : Nat)) := (rfl)
@[simp] theorem f_lent {s : List D} : bi .len [.tup s] = some (.int (s.length : Nat)) := (rfl)
@[simp] theorem f_lenr {s : List Int} : bi .len [.scr s] = some (.int (s.length : Nat)) := (rfl)
@[simp] theorem f_abs {i : Int} : bi .abs [.int i] = some (.int (if i < 0 then -i else i)) := (rfl)
@[simp] theorem f_max {i j : Int} : bi .max2 [.int i, .int j] = some (.int (if j > i then j else i)) := (rfl)
@[simp] theorem f_min {i j : Int} : bi .min2 [.int i, .int j] = some (.int (if j < i then j else i)) := (rfl)
@[simp] theorem f_inti {i : Int} : bi .int [.int i] = some (.int i) := (rfl)
@[simp] theorem f_intb {i : Bool} : bi .int [.bl i] = some (.int (if i then 1 else 0)) := (rfl)
@[simp] theorem f_dm {i j : Int} : bi .divmod [.int i, .int j] = if 0 < j ∧ j.natAbs < 2 ^ 8000 then some (.tup [.int (i / j), .int (i % j)]) else none := (rfl)
@[simp] theorem m_count {t : Tx} {c : Nat} : bm .count (.str t) [.str [c]] = some (.int (cntT c t)) := (rfl)
@[simp] theorem m_lcount {xs : List D} {y : D} : bm .lcount (.lst xs) [y] = if pl (.lst xs) && pl y then some (.int ((xs.countP fun x => eqv x y : Nat) : Int)) else none := (rfl)
@[simp] theorem bmK_join {w : W} : bmK .join w = isTx w := by cases w <;> rfl
@[simp] theorem bmK_count {w : W} : bmK .count w = isTx w := by cases w <;> rfl
@[simp] theorem m_lindex {xs : List D} {y : D} : bm .lindex (.lst xs) [y] = if pl (.lst xs) && pl y then (xs.findIdx? fun x => eqv x y).map fun j => .int (j : Nat) else none := (rfl)
@[simp] theorem bmK_lindex {xs : List D} : bmK .lindex (.d (.lst xs)) = true := (rfl)
@[simp] theorem bmK_lcount {xs : List D} : bmK .lcount (.d (.lst xs)) = true := (rfl)
@[simp] theorem asStr_str {s : Tx} {S : Store} : asStr (.d (.str s)) S = .ok (.d (.str s)) S := (rfl)
@[simp] theorem rds_nil {S : Store} : rds S [] = some [] := (rfl)
@[simp] theorem rds_cons {S : Store} {w : W} {ws : List W} : rds S (w :: ws) = (rd S w).bind fun x => (rds S ws).map (x :: ·) := (rfl)
@[simp] theorem dats_nil : dats [] = some [] := (rfl)
@[simp] theorem dats_cons {x : D} {ws : List W} : dats (.d x :: ws) = (dats ws).map (x :: ·) := (rfl)
@[simp] theorem argsW_nil {g : Nat} {ws zs : List W} : argsW T g [] ws zs = some ws := (rfl)
@[simp] theorem isTx_s {s : Tx} : isTx (.d (.str s)) = true := (rfl)
@[simp] theorem setPar_nil {env : Env} : setPar [] [] env = some env := (rfl)
@[simp] theorem setPar_cons {i : Nat} {is : List Nat} {w : W} {ws : List W} {env : Env} : setPar (i :: is) (w :: ws) env = if i < env.length then setPar is ws (env.set i (some w)) else none := (rfl)
@[simp] theorem fresh_t {xs : List D} {S : Store} : fresh true xs S = .ok (.loc S.length) (S ++ [.lst xs]) := (rfl)
@[simp] theorem fresh_f {xs : List D} {S : Store} : fresh false xs S = .ok (.d (.lst xs)) S := (rfl)
end
theorem atI_get {α : Type} {xs : List α} {i : Int} (x : α) (h0 : 0 ≤ i) (h1 : i < xs.length) : atI xs i = some (xs.getD i.toNat x) := by
  unfold atI ixN
  rw [if_pos h0, if_pos h1]
  have : i.toNat < xs.length := by omega
  simp [List.getD_eq_getElem?_getD, List.getElem?_eq_getElem this]
/-- a comprehension whose turns leave the store as it is -/
theorem accR_pure {f : D → Store → R (Option D)} {g : D → Option D} {p : Nat} : ∀ {xs acc : List D} {S : Store}, p = S.length → (∀ x ∈ xs, ∀ S, f x S = .ok (g x) S) → acc.length + xs.length ≤ lim → accR f p xs (S ++ [.hid acc]) = .ok () (S ++ [.hid (acc ++ xs.filterMap g)])
  | [], acc, S, hp, _, _ => by simp [accR]
  | x :: xs, acc, S, hp, h, hl => by
    rw [accR, h x List.mem_cons_self, R.bind_ok]
    simp only [List.length_cons] at hl
    cases e : g x with
    | none =>
      simp only
      rw [accR_pure hp (fun y hy => h y (List.mem_cons_of_mem _ hy)) (by omega), List.filterMap_cons, e]
    | some y =>
      have e1 : (S ++ [SO.hid acc])[p]? = some (.hid acc) := by rw [hp]; simp
      simp only [e1]
      rw [if_pos (by omega)]
      have e2 : (S ++ [SO.hid acc]).set p (.hid (acc ++ [y])) = S ++ [.hid (acc ++ [y])] := by rw [hp]; simp
      rw [e2, accR_pure hp (fun y hy => h y (List.mem_cons_of_mem _ hy)) (by simp; omega), List.filterMap_cons, e]
      simp
theorem accE_data {p : Nat} {S : Store} {ys : List D} (hp : p = S.length) : accE false p (S ++ [.hid ys]) = .ok (.d (.lst ys)) S := by
  unfold accE
  rw [show (S ++ [SO.hid ys])[p]? = some (.hid ys) by rw [hp]; simp]
  rw [hp]
  simp
end Ev
end
section
/-! EvL: the evaluator's equations under side conditions that omega closes. Own work. -/
set_option linter.all false
set_option autoImplicit false
set_option maxRecDepth 100000
set_option exponentiation.threshold 30000
namespace Ev
@[simp high] theorem c_mod {i j : Int} (h : 0 < j) : bin .mod (.int i) (.int j) = some (.int (i % j)) := by
  rw [b_mod, if_pos (by omega), Int.fmod_eq_emod_of_nonneg _ (by omega)]
theorem small8 {j : Int} (h : 0 < j) (h2 : j < 18446744073709551616) : j.natAbs < 2 ^ 8000 := by
  have : (18446744073709551616 : Nat) ≤ 2 ^ 8000 := by decide +kernel
  omega
@[simp high] theorem c_fdiv {i j : Int} (h : 0 < j) (h2 : j < 18446744073709551616) : bin .fdiv (.int i) (.int j) = some (.int (i / j)) := by
  have : divOk j = true := by
    unfold divOk
    simp [h, small8 h h2]
  rw [b_fdiv, if_pos this, Int.fdiv_eq_ediv_of_nonneg _ (by omega)]
@[simp high] theorem c_mul1 {i j : Int} (h : -18446744073709551616 < i) (h2 : i < 18446744073709551616) : bin .mul (.int i) (.int j) = some (.int (i * j)) := by
  have : mulOk i j = true := by
    unfold mulOk
    simp [h, h2]
  rw [b_mul, if_pos this]
@[simp high] theorem c_mul2 {i j : Int} (h : -18446744073709551616 < j) (h2 : j < 18446744073709551616) : bin .mul (.int i) (.int j) = some (.int (i * j)) := by
  have : mulOk i j = true := by
    unfold mulOk
    simp [h, h2]
  rw [b_mul, if_pos this]
@[simp high] theorem c_dm {i j : Int} (h : 0 < j) (h2 : j < 18446744073709551616) : bi .divmod [.int i, .int j] = some (.tup [.int (i / j), .int (i % j)]) := by
  rw [f_dm, if_pos ⟨h, small8 h h2⟩]
@[simp high] theorem c_adds {s t : Tx} (h : s.length + t.length ≤ 4000000) : bin .add (.str s) (.str t) = some (.str (s ++ t)) := by
  exact (b_adds (s := s) (t := t)).trans (if_pos h)
@[simp high] theorem c_addl {s t : List D} (h : s.length + t.length ≤ 4000000) : bin .add (.lst s) (.lst t) = some (.lst (s ++ t)) := by
  exact (b_addl (s := s) (t := t)).trans (if_pos h)
@[simp high] theorem c_atn {xs : List Nat} {i : Int} (h0 : 0 ≤ i) (h1 : i < xs.length) : atI xs i = some (xs.getD i.toNat 0) := atI_get 0 h0 h1
@[simp high] theorem c_ati {xs : List Int} {i : Int} (h0 : 0 ≤ i) (h1 : i < xs.length) : atI xs i = some (xs.getD i.toNat 0) := atI_get 0 h0 h1
@[simp high] theorem c_atd {xs : List D} {i : Int} (h0 : 0 ≤ i) (h1 : i < xs.length) : atI xs i = some (xs.getD i.toNat .non) := atI_get .non h0 h1
@[simp high] theorem c_rng {i : Int} (h0 : -4611686018427387904 ≤ i) (h1 : i < 4611686018427387904) : rngOk i = true := by
  unfold rngOk
  simp
  omega
@[simp high] theorem c_pos {α : Type} {c : Prop} [Decidable c] {a b : α} (h : c) : (if c then a else b) = a := if_pos h
@[simp high] theorem c_neg {α : Type} {c : Prop} [Decidable c] {a b : α} (h : ¬c) : (if c then a else b) = b := if_neg h

/-- a loop each of whose turns goes on -/
theorem loop_inv {body : D → Env → Store → R Fl} (I : Env → Store → Prop) : ∀ {xs : List D} {env : Env} {S : Store}, I env S → (∀ x ∈ xs, ∀ env S, I env S → ∃ e' S', (body x env S = .ok (.nx e') S' ∨ body x env S = .ok (.ct e') S') ∧ I e' S') → ∃ e' S', loopR body xs env S = .ok (.nx e') S' ∧ I e' S'
  | [], env, S, h0, _ => ⟨env, S, rfl, h0⟩
  | x :: xs, env, S, h0, hs => by
    obtain ⟨e', S', h, hi⟩ := hs x List.mem_cons_self env S h0
    obtain ⟨e2, S2, h2, hi2⟩ := loop_inv I hi (fun y hy => hs y (List.mem_cons_of_mem _ hy))
    refine ⟨e2, S2, ?_, hi2⟩
    rcases h with h | h <;> (rw [loopR, h]; exact h2)
@[simp high] theorem ge_z {α : Type} {x : α} {xs : List α} : (x :: xs)[0]? = some x := (rfl)
@[simp high] theorem ge_s {α : Type} {x : α} {xs : List α} {i : Nat} : (x :: xs)[i + 1]? = xs[i]? := (rfl)
@[simp high] theorem last_get {S : Store} {o : SO} : (S ++ [o])[S.length]? = some o := by simp
@[simp high] theorem last_set {S : Store} {o o' : SO} : (S ++ [o]).set S.length o' = S ++ [o'] := by simp
@[simp high] theorem last_take {S : Store} {o : SO} : (S ++ [o]).take (S.length + 1) = S ++ [o] := List.take_of_length_le (by simp)
@[simp high] theorem at_0 {α : Type} {x : α} {xs : List α} : atI (x :: xs) 0 = some x := by
  rw [atI_get x (by decide) (by simp only [List.length_cons]; omega)]; rfl
@[simp high] theorem at_1 {α : Type} {x y : α} {xs : List α} : atI (x :: y :: xs) 1 = some y := by
  rw [atI_get x (by decide) (by simp only [List.length_cons]; omega)]; rfl
@[simp high] theorem at_2 {α : Type} {x y z : α} {xs : List α} : atI (x :: y :: z :: xs) 2 = some z := by
  rw [atI_get x (by decide) (by simp only [List.length_cons]; omega)]; rfl
@[simp high] theorem at_3 {α : Type} {x y z w : α} {xs : List α} : atI (x :: y :: z :: w :: xs) 3 = some w := by
  rw [atI_get x (by decide) (by simp only [List.length_cons]; omega)]; rfl
@[simp high] theorem ixN_c {n : Nat} {i : Int} (h0 : 0 ≤ i) (h1 : i < n) : ixN n i = some i.toNat := by
  unfold ixN
  rw [if_pos h0, if_pos h1]
@[simp high] theorem fin_last {S : Store} {o : SO} : fin S.length (.ok (.rt (.loc S.length)) (S ++ [o])) = .ok (.loc S.length) (S ++ [o]) := by simp [fin]
@[simp high] theorem set_take {S : Store} {l : Nat} {o : SO} : (S.set l o).take S.length = S.set l o := List.take_of_length_le (by simp)
theorem rd_l {S : Store} {n : Nat} {xs : List D} (h : S[n]? = some (.lst xs)) : rd S (.loc n) = some (.lst xs) := by
  show (S[n]?).bind rdS = _
  rw [h]
  rfl
inductive All2 {α β : Type} (P : α → β → Prop) : List α → List β → Prop where
  | nil : All2 P [] []
  | cons {x : α} {y : β} {xs : List α} {ys : List β} : P x y → All2 P xs ys → All2 P (x :: xs) (y :: ys)
theorem All2.len {α β : Type} {P : α → β → Prop} {xs : List α} {ys : List β} (h : All2 P xs ys) : ys.length = xs.length := by
  induction h with
  | nil => rfl
  | cons _ _ ih => simp [ih]
theorem All2.map_l {α β γ : Type} {P : β → γ → Prop} {c : α → β} : ∀ {xs : List α} {ys : List γ}, All2 P (xs.map c) ys → All2 (fun x y => P (c x) y) xs ys
  | [], _, h => by cases h; exact .nil
  | x :: xs, _, h => by
    cases h with
    | cons h1 h2 => exact .cons h1 (All2.map_l h2)
/-- when each item is the one thing that the turn can put -/
theorem All2.all {α β : Type} {P : α → β → Prop} {Z : β → Prop} {xs : List α} {ys : List β} (h : All2 P xs ys) (hz : ∀ x y, P x y → Z y) : ∀ y ∈ ys, Z y := by
  induction h with
  | nil => simp
  | cons h1 _ ih =>
    intro y hy
    rcases List.mem_cons.1 hy with rfl | hy
    · exact hz _ _ h1
    · exact ih y hy
/-- a comprehension, each of whose turns puts an item -/
theorem accR_st {f : D → Store → R (Option D)} {p : Nat} (Q : Store → Store → Prop) (P : D → D → Prop) : ∀ {xs acc : List D} {A B : Store}, A.length = p → Q A B → (∀ x ∈ xs, ∀ A B acc, A.length = p → Q A B → ∃ y A' B', f x (A ++ .hid acc :: B) = .ok (some y) (A' ++ .hid acc :: B') ∧ A'.length = p ∧ Q A' B' ∧ P x y) → acc.length + xs.length ≤ lim → ∃ ys A' B', accR f p xs (A ++ .hid acc :: B) = .ok () (A' ++ .hid (acc ++ ys) :: B') ∧ A'.length = p ∧ Q A' B' ∧ All2 P xs ys
  | [], acc, A, B, hp, hq, _, _ => ⟨[], A, B, by simp [accR], hp, hq, .nil⟩
  | x :: xs, acc, A, B, hp, hq, hs, hl => by
    obtain ⟨y, A1, B1, h, hp1, hq1, hr⟩ := hs x List.mem_cons_self A B acc hp hq
    simp only [List.length_cons] at hl
    obtain ⟨ys, A2, B2, h2, hp2, hq2, hr2⟩ := accR_st Q P (acc := acc ++ [y]) hp1 hq1 (fun z hz => hs z (List.mem_cons_of_mem _ hz)) (by simp; omega)
    refine ⟨y :: ys, A2, B2, ?_, hp2, hq2, .cons hr hr2⟩
    rw [accR, h, R.bind_ok]
    have e1 : (A1 ++ SO.hid acc :: B1)[p]? = some (.hid acc) := by rw [← hp1]; simp
    simp only [e1]
    rw [if_pos (by omega)]
    have e2 : (A1 ++ SO.hid acc :: B1).set p (.hid (acc ++ [y])) = A1 ++ SO.hid (acc ++ [y]) :: B1 := by rw [← hp1]; simp
    rw [e2, h2]
    simp
theorem accE_mid {p : Nat} {A B : Store} {ys : List D} (hp : A.length = p) : accE false p (A ++ .hid ys :: B) = .ok (.d (.lst ys)) A := by
  unfold accE
  rw [show (A ++ SO.hid ys :: B)[p]? = some (.hid ys) by rw [← hp]; simp]
  rw [← hp]
  simp
variable {T : Tab} {Φ : Phi}
theorem st_end {f : D → Store → R (Option D)} {p : Nat} {xs : List D} {S0 : Store} {Q : Store → Store → Prop} {P : D → D → Prop} (h : ∃ ys A B, accR f p xs S0 = .ok () (A ++ .hid ([] ++ ys) :: B) ∧ A.length = p ∧ Q A B ∧ All2 P xs ys) : ∃ ys A B, ((accR f p xs S0).noex.bind fun _ S2 => accE false p S2) = .ok (.d (.lst ys)) A ∧ A.length = p ∧ Q A B ∧ All2 P xs ys := by
  obtain ⟨ys, A, B, h, hA, hQ, hP⟩ := h
  refine ⟨ys, A, B, ?_, hA, hQ, hP⟩
  rw [h]
  simp [accE_mid hA]
theorem fm_filter {α β : Type} {q : α → Bool} {g : α → β} (ys : List α) : ys.filterMap (fun x => if q x then some (g x) else none) = (ys.filter q).map g := by
  induction ys with
  | nil => rfl
  | cons y ys ih => cases hq : q y <;> simp_all
/-- the same, of the whole comprehension -/
theorem cmpr_st {elt : Ex} {tg : Tn} {it : It} {own : List Nat} {env : Env} {S S1 : Store} {xs : List D} (Q : Store → Store → Prop) (P : D → D → Prop) (hi : evI T Φ it env S = .ok xs S1) (hq : Q S1 []) (hl : xs.length ≤ 4000000)
    (hs : ∀ x ∈ xs, ∀ A B acc, A.length = S1.length → Q A B → ∃ e y A' B', bindN tg x (wipe own env) = some e ∧ evE T Φ elt e (A ++ .hid acc :: B) = .ok (.d y) (A' ++ .hid acc :: B') ∧ A'.length = S1.length ∧ Q A' B' ∧ P x y) :
    ∃ ys A B, evE T Φ (.cmpr false elt tg it .no own) env S = .ok (.d (.lst ys)) A ∧ A.length = S1.length ∧ Q A B ∧ All2 P xs ys := by
  rw [q_cmpr, hi, R.bind_ok]
  refine st_end (accR_st Q P (acc := []) rfl hq (fun x hx A B acc hA hQ => ?_) (by unfold lim; simpa using hl))
  obtain ⟨e, y, A', B', h1, h2, h3, h4, h5⟩ := hs x hx A B acc hA hQ
  refine ⟨y, A', B', ?_, h3, h4, h5⟩
  simp [h1, h2]
/-- .. whose turns leave the store alone -/
theorem accR_fm {α : Type} {f : D → Store → R (Option D)} {p : Nat} {c : α → D} {g : α → Option D} : ∀ {xs : List α} {acc : List D} {S : Store}, p = S.length → (∀ x ∈ xs, ∀ S, f (c x) S = .ok (g x) S) → acc.length + xs.length ≤ lim → accR f p (xs.map c) (S ++ [.hid acc]) = .ok () (S ++ [.hid (acc ++ xs.filterMap g)])
  | [], acc, S, hp, _, _ => by simp [accR]
  | x :: xs, acc, S, hp, h, hl => by
    rw [List.map_cons, accR, h x List.mem_cons_self, R.bind_ok]
    simp only [List.length_cons] at hl
    cases e : g x with
    | none =>
      simp only
      rw [accR_fm hp (fun y hy => h y (List.mem_cons_of_mem _ hy)) (by omega), List.filterMap_cons, e]
    | some y =>
      have e1 : (S ++ [SO.hid acc])[p]? = some (.hid acc) := by rw [hp]; simp
      simp only [e1]
      rw [if_pos (by omega)]
      have e2 : (S ++ [SO.hid acc]).set p (.hid (acc ++ [y])) = S ++ [.hid (acc ++ [y])] := by rw [hp]; simp
      rw [e2, accR_fm hp (fun y hy => h y (List.mem_cons_of_mem _ hy)) (by simp; omega), List.filterMap_cons, e]
      simp
theorem cmpr_map {α : Type} {elt : Ex} {tg : Tn} {it : It} {own : List Nat} {env : Env} {S S1 : Store} {ys : List α} {c : α → D} (g : α → D) (hi : evI T Φ it env S = .ok (ys.map c) S1) (hl : ys.length ≤ 4000000)
    (hs : ∀ x ∈ ys, ∀ S, ∃ e, bindN tg (c x) (wipe own env) = some e ∧ evE T Φ elt e S = .ok (.d (g x)) S) :
    evE T Φ (.cmpr false elt tg it .no own) env S = .ok (.d (.lst (ys.map g))) S1 := by
  rw [q_cmpr, hi, R.bind_ok, accR_fm (g := fun x => some (g x)) rfl (fun x hx S => by
    obtain ⟨e, h1, h2⟩ := hs x hx S
    simp [h1, h2]) (by unfold lim; simpa using hl)]
  simp [accE_data]
theorem cmpr_fil {α : Type} {elt cs : Ex} {tg : Tn} {it : It} {own : List Nat} {env : Env} {S S1 : Store} {ys : List α} {c : α → D} (q : α → Bool) (g : α → D) (hi : evI T Φ it env S = .ok (ys.map c) S1) (hl : ys.length ≤ 4000000)
    (hs : ∀ x ∈ ys, ∀ S, ∃ e, bindN tg (c x) (wipe own env) = some e ∧ evT T Φ cs (evE T Φ cs) e S = .ok (q x) S ∧ evE T Φ elt e S = .ok (.d (g x)) S) :
    evE T Φ (.cmpr false elt tg it (.so cs) own) env S = .ok (.d (.lst ((ys.filter q).map g))) S1 := by
  rw [q_cmpr, hi, R.bind_ok, accR_fm (g := fun x => if q x then some (g x) else none) rfl (fun x hx S => by
    obtain ⟨e, h1, h3, h2⟩ := hs x hx S
    cases hq : q x <;> simp [h1, h2, h3, hq]) (by unfold lim; simpa using hl)]
  rw [fm_filter]
  simp [accE_data]

/-! the law's pot: a list of two whole numbers at a place of the store -/
def PotAt (l : Nat) (S : Store) : Prop := ∃ a b : Int, S[l]? = some (.lst [.int a, .int b]) ∧ 0 ≤ a ∧ 0 ≤ b ∧ b < 4294967296
def Ch (l : Nat) (S S' : Store) : Prop := S'.length = S.length ∧ (∀ i, i ≠ l → S'[i]? = S[i]?) ∧ PotAt l S'
theorem Ch.pot {l : Nat} {S S' : Store} (h : Ch l S S') : PotAt l S' := h.2.2
theorem Ch.rfl {l : Nat} {S : Store} (h : PotAt l S) : Ch l S S := ⟨by simp, fun _ _ => by simp, h⟩
theorem Ch.trans {l : Nat} {S S1 S2 : Store} (h : Ch l S S1) (h2 : Ch l S1 S2) : Ch l S S2 := ⟨h2.1.trans h.1, fun i hi => (h2.2.1 i hi).trans (h.2.1 i hi), h2.2.2⟩
theorem PotAt.lt {l : Nat} {S : Store} (h : PotAt l S) : l < S.length := by
  obtain ⟨a, b, h, _⟩ := h
  exact (List.getElem?_eq_some_iff.1 h).1
theorem Ch.set {l : Nat} {S : Store} {a b : Int} (h : l < S.length) (ha : 0 ≤ a) (hb : 0 ≤ b) (hb2 : b < 4294967296) : Ch l S (S.set l (.lst [.int a, .int b])) :=
  ⟨by simp, fun i hi => by simp [List.getElem?_set, Ne.symm hi], ⟨a, b, by simp [h], ha, hb, hb2⟩⟩
theorem PotAt.app {l : Nat} {S B : Store} (h : PotAt l S) : PotAt l (S ++ B) := by
  have hl := h.lt
  obtain ⟨a, b, h, h2⟩ := h
  exact ⟨a, b, by rw [List.getElem?_append_left hl]; exact h, h2⟩
theorem Ch.cut {l : Nat} {S B S' : Store} (hl : l < S.length) (h : Ch l (S ++ B) S') : ∃ A, S' = A ++ B ∧ Ch l S A := by
  obtain ⟨h1, h2, h3⟩ := h
  refine ⟨S'.take S.length, ?_, ?_, ?_, ?_⟩
  · apply List.ext_getElem?
    intro i
    by_cases hi : i < S.length
    · rw [List.getElem?_append_left (by simp at h1 ⊢; omega), List.getElem?_take_of_lt hi]
    · rw [List.getElem?_append_right (by simp at h1 ⊢; omega), h2 i (by omega), List.getElem?_append_right (by omega)]
      simp at h1 ⊢
      congr 1
      omega
  · simp at h1 ⊢; omega
  · intro i hi
    by_cases hl : i < S.length
    · rw [List.getElem?_take_of_lt hl, h2 i hi, List.getElem?_append_left hl]
    · rw [List.getElem?_eq_none (by simp; omega), List.getElem?_eq_none (by omega)]
  · obtain ⟨a, b, h, h4⟩ := h3
    exact ⟨a, b, by rw [List.getElem?_take_of_lt hl]; exact h, h4⟩
theorem Ch.take {l : Nat} {S S' : Store} (h : Ch l S S') : S'.take S.length = S' := by rw [← h.1]; simp
theorem Ch.last {S S' : Store} {o : SO} (h : Ch S.length (S ++ [o]) S') : ∃ o', S' = S ++ [o'] := by
  obtain ⟨h1, h2, h3⟩ := h
  have hl : S.length < S'.length := by simp at h1; omega
  refine ⟨S'[S.length], ?_⟩
  apply List.ext_getElem?
  intro i
  by_cases hi : i = S.length
  · subst hi; simp [hl]
  · rw [h2 i hi]
    by_cases c : i < S.length
    · rw [List.getElem?_append_left c, List.getElem?_append_left c]
    · rw [List.getElem?_eq_none (by simp; omega), List.getElem?_eq_none (by simp; omega)]
/-- a comprehension whose turns draw from the pot -/
theorem cmpr_pot {elt : Ex} {tg : Tn} {it : It} {own : List Nat} {env : Env} {S S1 : Store} {l : Nat} {xs : List D} (P : D → D → Prop) (hi : evI T Φ it env S = .ok xs S1) (hp : PotAt l S1) (hl : xs.length ≤ 4000000)
    (hs : ∀ x ∈ xs, ∀ S, PotAt l S → ∃ e y S', bindN tg x (wipe own env) = some e ∧ evE T Φ elt e S = .ok (.d y) S' ∧ Ch l S S' ∧ P x y) :
    ∃ ys S', evE T Φ (.cmpr false elt tg it .no own) env S = .ok (.d (.lst ys)) S' ∧ Ch l S1 S' ∧ All2 P xs ys := by
  obtain ⟨ys, A, B, h, h1, ⟨h2, -⟩, h4⟩ := cmpr_st (Q := fun A B => Ch l S1 A ∧ B = []) (P := P) hi ⟨Ch.rfl hp, _root_.rfl⟩ hl (fun x hx A B acc hA ⟨hq, hB⟩ => by
    obtain ⟨e, y, S', h1, h2, h3, h4⟩ := hs x hx (A ++ [.hid acc]) hq.pot.app
    obtain ⟨A', rfl, hA'⟩ := h3.cut hq.pot.lt
    subst hB
    exact ⟨e, y, A', [], h1, h2, hA'.1.trans hA, ⟨hq.trans hA', _root_.rfl⟩, h4⟩)
  exact ⟨ys, A, h, h2, h4⟩

theorem all_map {α : Type} (g : α → Bool) (ys : List α) : bi .all [.lst (ys.map fun y => D.bl (g y))] = some (.bl (ys.all g)) := by
  have : blsOf (ys.map fun y => D.bl (g y)) = some (ys.map g) := by
    induction ys with
    | nil => rfl
    | cons y ys ih => simp [blsOf, ih]
  show ((blsOf (ys.map fun y => D.bl (g y))).map fun bs => D.bl (bs.all id)) = _
  simp [this, List.all_map]
theorem all_true {ys : List D} (h : ∀ y ∈ ys, y = .bl true) : bi .all [.lst ys] = some (.bl true) := by
  have : ys = ys.map fun _ => D.bl true := by
    induction ys with
    | nil => rfl
    | cons y ys ih =>
      rw [List.map_cons, ← ih (fun z hz => h z (List.mem_cons_of_mem _ hz)), h y List.mem_cons_self]
  rw [this, all_map (fun _ => true)]
  simp
theorem joinT_nil : ∀ ts : List Tx, joinT [] ts = ts.flatten
  | [] => rfl
  | [x] => by simp [joinT]
  | x :: y :: ts => by
    rw [joinT, joinT_nil (y :: ts)]
    · simp
    · simp
theorem join_map {α : Type} (g : α → Nat) (ys : List α) (hl : ys.length ≤ 4000000) : bm .join (.str []) [.lst (ys.map fun y => D.str [g y])] = some (.str (ys.map g)) := by
  have : txsOf (ys.map fun y => D.str [g y]) = some (ys.map fun y => [g y]) := by
    clear hl
    induction ys with
    | nil => rfl
    | cons y ys ih => simp [txsOf, ih]
  have e : (ys.map fun y => [g y]).flatten = ys.map g := by
    clear hl this
    induction ys with
    | nil => rfl
    | cons y ys ih => simp [ih]
  have e2 : ((ys.map fun y => [g y]).map (·.length)).sum = ys.length := by
    rw [← List.length_flatten, e]; simp
  simp only [bm, this, Option.bind_some, e2, joinT_nil, e]
  rw [if_pos (by simp [lim]; omega)]
theorem join_has {P : Nat → Prop} {ys : List D} (hl : ys.length ≤ 4000000) (h : ∀ y ∈ ys, ∃ c, P c ∧ y = .str [c]) : ∃ s : Tx, bm .join (.str []) [.lst ys] = some (.str s) ∧ s.length = ys.length ∧ ∀ c ∈ s, P c := by
  have : ∃ s : Tx, ys = s.map (fun c => D.str [c]) ∧ s.length = ys.length ∧ ∀ c ∈ s, P c := by
    clear hl
    induction ys with
    | nil => exact ⟨[], rfl, rfl, by simp⟩
    | cons y ys ih =>
      obtain ⟨s, h1, h2, h3⟩ := ih fun z hz => h z (List.mem_cons_of_mem _ hz)
      obtain ⟨c, hc, rfl⟩ := h y List.mem_cons_self
      exact ⟨c :: s, by simp [h1], by simp [h2], by simpa using ⟨hc, h3⟩⟩
  obtain ⟨s, h1, h2, h3⟩ := this
  refine ⟨s, ?_, h2, h3⟩
  rw [h1, join_map (fun c => c) s (by omega)]
  simp

/-! loops with a condition -/
theorem itW_mono {c : Env → Store → R Bool} {b : Env → Store → R Fl} : ∀ {n m : Nat} {env : Env} {S : Store}, n ≤ m → itW c b n env S ≠ .bad → itW c b m env S = itW c b n env S
  | 0, _, _, _, _, h => absurd rfl h
  | n + 1, 0, _, _, hl, _ => by omega
  | n + 1, m + 1, env, S, hl, h => by
    simp only [itW] at h ⊢
    cases hc : c env S with
    | bad => rfl
    | ex _ _ _ => rfl
    | ok t S1 =>
      rw [hc] at h
      cases t with
      | false => rfl
      | true =>
        simp only [R.bindX, if_true] at h ⊢
        cases hb : b env S1 with
        | bad => rfl
        | ex _ _ _ => rfl
        | ok fl S2 =>
          rw [hb] at h
          simp only [R.bind_ok] at h ⊢
          cases fl with
          | nx e => exact itW_mono (by omega) h
          | ct e => exact itW_mono (by omega) h
          | _ => rfl
theorem while_ok {c : Env → Store → R Bool} {b : Env → Store → R Fl} {n : Nat} {env : Env} {S S' : Store} {fl : Fl} (h : itW c b n env S = .ok fl S') : whileR c b env S = .ok fl S' := by
  have hx : ∃ n, itW c b n env S ≠ .bad := ⟨n, by rw [h]; exact nofun⟩
  unfold whileR
  rw [dif_pos hx]
  have e1 := itW_mono (Nat.le_max_left n hx.choose) (show itW c b n env S ≠ .bad by rw [h]; exact nofun)
  have e2 := itW_mono (Nat.le_max_right n hx.choose) hx.choose_spec
  rw [← e2, e1, h]
theorem while_inv {c : Env → Store → R Bool} {b : Env → Store → R Fl} (I : Nat → Env → Store → Prop) (Z : Env → Store → Prop)
    (hs : ∀ k env S, I k env S → (c env S = .ok false S ∧ Z env S) ∨ (c env S = .ok true S ∧ ∃ k' e' S', (b env S = .ok (.nx e') S' ∨ b env S = .ok (.ct e') S') ∧ k' < k ∧ I k' e' S')) :
    ∀ k env S, I k env S → ∃ e' S', whileR c b env S = .ok (.nx e') S' ∧ Z e' S' := by
  have : ∀ k k0, k0 ≤ k → ∀ env S, I k0 env S → ∃ n e' S', itW c b n env S = .ok (.nx e') S' ∧ Z e' S' := by
    intro k
    induction k with
    | zero =>
      intro k0 hk env S hi
      rcases hs k0 env S hi with ⟨h1, h2⟩ | ⟨_, k', _, _, _, h, _⟩
      · exact ⟨1, env, S, by simp [itW, h1, R.bindX], h2⟩
      · omega
    | succ k ih =>
      intro k0 hk env S hi
      rcases hs k0 env S hi with ⟨h1, h2⟩ | ⟨h1, k', e', S', h2, h3, h4⟩
      · exact ⟨1, env, S, by simp [itW, h1, R.bindX], h2⟩
      · obtain ⟨n, e2, S2, h5, h6⟩ := ih k' (by omega) e' S' h4
        refine ⟨n + 1, e2, S2, ?_, h6⟩
        rcases h2 with h2 | h2 <;> simp [itW, h1, h2, R.bindX, h5]
  intro k env S hi
  obtain ⟨n, e', S', h, hz⟩ := this k k (Nat.le_refl _) env S hi
  exact ⟨e', S', while_ok h, hz⟩
/-! lists of ints, side by side -/
theorem plain_ints {α : Type} (g : α → Int) (n : Nat) (ys : List α) : plains n (ys.map fun y => D.int (g y)) = true := by
  induction ys with
  | nil => rfl
  | cons y ys ih => simp [plains, plain, ih]
theorem eqv_ints {α : Type} (g : α → Int) (ys : List α) : eqvs (ys.map fun y => D.int (g y)) (ys.map fun y => D.int (g y)) = true := by
  induction ys with
  | nil => rfl
  | cons y ys ih => simp [eqvs, eqv, ih]
theorem ne_ints {α : Type} (g : α → Int) (ys : List α) : cmp .ne (.lst (ys.map fun y => D.int (g y))) (.lst (ys.map fun y => D.int (g y))) = some (.bl false) := by
  simp [cmp, pl, plain, plain_ints, eqv, eqv_ints]
theorem eq_ints {α : Type} (g : α → Int) (ys : List α) : cmp .eq (.lst (ys.map fun y => D.int (g y))) (.lst (ys.map fun y => D.int (g y))) = some (.bl true) := by
  simp [cmp, pl, plain, plain_ints, eqv, eqv_ints]

theorem loop_ok {n0 : Nat} {tg : Tn} {it : It} {body : Sms} {env : Env} {S S1 : Store} {xs : List D} (I : Env → Store → Prop) (hi : evI T Φ it env S = .ok xs S1) (h0 : I env S1) (hs : ∀ x ∈ xs, ∀ env S, I env S → ∃ e e' S', bindN tg x env = some e ∧ (evSs T Φ n0 body e S = .ok (.nx e') S' ∨ evSs T Φ n0 body e S = .ok (.ct e') S') ∧ I e' S') :
    ∃ e' S', evS T Φ n0 (.loop tg it body) env S = .ok (.nx e') S' ∧ I e' S' := by
  rw [q_loop, hi]
  refine loop_inv I h0 fun x hx env S h => ?_
  obtain ⟨e, e', S', h1, h2, h3⟩ := hs x hx env S h
  exact ⟨e', S', by simp [h1]; exact h2, h3⟩
end Ev
end
section
/-! EvM: more equations; loops that may end early. Own work. -/
set_option linter.all false
set_option autoImplicit false
set_option maxRecDepth 100000
set_option exponentiation.threshold 30000
namespace Ev
theorem c_muls {s : Tx} {k : Int} (h0 : 0 ≤ k) (h1 : k ≤ 4000000) (h : s.length * k ≤ 4000000) : bin .mul (.str s) (.int k) = some (.str (repL s k.toNat)) := by
  have : ((s.length * k.toNat : Nat) : Int) ≤ 4000000 := by
    rw [Int.natCast_mul, show ((k.toNat : Nat) : Int) = k by omega]
    exact h
  show (if s.length * k.toNat ≤ lim ∧ -(2 ^ 63) ≤ k ∧ k < 2 ^ 63 then some (D.str (repL s k.toNat)) else none) = _
  rw [if_pos ⟨by unfold lim; omega, by omega, by omega⟩]
theorem muls_small {s : Tx} {k : Int} (h0 : 0 ≤ k) (h1 : k ≤ 1000) (h : s.length * k ≤ 1000) : bin .mul (.str s) (.int k) = some (.str (repL s k.toNat)) := by
  generalize hx : (s.length : Int) * k = x at h
  exact c_muls h0 (by omega) (by rw [hx]; omega)
theorem muls_mid {s : Tx} {k : Int} (h0 : 0 ≤ k) (h1 : k ≤ 10000) (h : s.length * k ≤ 10000) : bin .mul (.str s) (.int k) = some (.str (repL s k.toNat)) := by
  generalize hx : (s.length : Int) * k = x at h
  exact c_muls h0 (by omega) (by rw [hx]; omega)
@[simp high] theorem at_m1 {xs : List Nat} (h : 0 < xs.length) : atI xs (-1) = some (xs.getD (xs.length - 1) 0) := by
  unfold atI ixN
  rw [if_neg (by decide), if_pos (by omega)]
  simp only [Option.bind_some]
  rw [show (-1 + (xs.length : Int)).toNat = xs.length - 1 by omega, List.getElem?_eq_getElem (by omega), List.getD_eq_getElem?_getD, List.getElem?_eq_getElem (by omega)]
  rfl
@[simp] theorem cut_m1 {α : Type} {s : List α} : cut s none (some (-1)) = s.take (s.length - 1) := by
  unfold cut sIx
  simp only [List.drop_zero, Nat.sub_zero]
  rw [if_pos (by decide), show (-1 + (s.length : Int)).toNat = s.length - 1 by omega]
@[simp] theorem cut_l1 {α : Type} {s : List α} : cut s (some (-1)) none = s.drop (s.length - 1) := by
  unfold cut sIx
  dsimp only
  rw [if_pos (by decide), show (-1 + (s.length : Int)).toNat = s.length - 1 by omega]
  exact List.take_of_length_le (by simp)
@[simp] theorem neg_int {i : Int} : neg (.int i) = some (.int (-i)) := (rfl)
theorem mem_intRange {i j : Int} {x : D} (hx : x ∈ intRange i j) : ∃ k : Int, x = .int k ∧ i ≤ k ∧ k < j := by
  unfold intRange at hx
  obtain ⟨k, hk, rfl⟩ := List.mem_map.1 hx
  have := List.mem_range.1 hk
  exact ⟨_, rfl, by omega, by omega⟩
theorem cut_to {α : Type} {s : List α} {i : Int} (h : 0 ≤ i) : cut s none (some i) = s.take i.toNat := by
  unfold cut
  simp [sIx, show ¬i < 0 by omega]
theorem cut_from {α : Type} {s : List α} {i : Int} (h : 0 ≤ i) : cut s (some i) none = s.drop i.toNat := by
  unfold cut sIx
  simp only [show ¬i < 0 by omega, if_false]
  by_cases c : i.toNat ≤ s.length
  · rw [Nat.min_eq_left c]
    exact List.take_of_length_le (by simp)
  · rw [Nat.min_eq_right (by omega), List.drop_of_length_le (Nat.le_refl _), List.drop_of_length_le (by omega)]
    simp
/-- a loop that ends at the first item that is wanted -/
theorem loop_first {body : D → Env → Store → R Fl} {S : Store} (I : Env → Prop) (q : D → Bool) (r : D → W) : ∀ {xs : List D} {env : Env}, I env → (∀ x ∈ xs, ∀ env, I env → if q x then body x env S = .ok (.rt (r x)) S else ∃ e', I e' ∧ (body x env S = .ok (.nx e') S ∨ body x env S = .ok (.ct e') S)) →
    (∀ x, xs.find? q = some x → loopR body xs env S = .ok (.rt (r x)) S) ∧ (xs.find? q = none → ∃ e', I e' ∧ loopR body xs env S = .ok (.nx e') S)
  | [], env, h0, _ => ⟨fun x h => by simp at h, fun _ => ⟨env, h0, rfl⟩⟩
  | x :: xs, env, h0, hs => by
    have h1 := hs x List.mem_cons_self env h0
    by_cases c : q x = true
    · rw [if_pos c] at h1
      refine ⟨fun y hy => ?_, fun hy => ?_⟩
      · rw [List.find?_cons_of_pos c] at hy
        cases hy
        rw [loopR, h1]; rfl
      · rw [List.find?_cons_of_pos c] at hy
        cases hy
    · rw [if_neg c] at h1
      obtain ⟨e', hi, h1⟩ := h1
      obtain ⟨h2, h3⟩ := loop_first I q r hi fun y hy => hs y (List.mem_cons_of_mem _ hy)
      have e : loopR body (x :: xs) env S = loopR body xs e' S := by
        rcases h1 with h1 | h1 <;> (rw [loopR, h1]; rfl)
      rw [List.find?_cons_of_neg c, e]
      exact ⟨h2, h3⟩
/-- a loop whose turns are counted -/
theorem loop_cntR {body : D → Env → Store → R Fl} : ∀ {xs : List D} (I : Nat → Env → Store → Prop) {env : Env} {S : Store}, I 0 env S → (∀ k x env S, xs[k]? = some x → I k env S → ∃ e' S', (body x env S = .ok (.nx e') S' ∨ body x env S = .ok (.ct e') S') ∧ I (k + 1) e' S') → ∃ e' S', loopR body xs env S = .ok (.nx e') S' ∧ I xs.length e' S'
  | [], I, env, S, h0, _ => ⟨env, S, rfl, h0⟩
  | x :: xs, I, env, S, h0, hs => by
    obtain ⟨e1, S1, h1, i1⟩ := hs 0 x env S rfl h0
    obtain ⟨e2, S2, h2, i2⟩ := loop_cntR (xs := xs) (fun k => I (k + 1)) i1 fun k y env S hy hi => hs (k + 1) y env S (by simpa using hy) hi
    refine ⟨e2, S2, ?_, i2⟩
    rcases h1 with h1 | h1 <;> (rw [loopR, h1]; exact h2)
/-- a loop that ends within -/
theorem loop_preR {body : D → Env → Store → R Fl} {S : Store} {x : D} {post : List D} {w : W} (I : Env → Prop) (hx : ∀ env, I env → body x env S = .ok (.rt w) S) : ∀ {pre : List D} {env : Env}, I env → (∀ y ∈ pre, ∀ env, I env → ∃ e', I e' ∧ (body y env S = .ok (.nx e') S ∨ body y env S = .ok (.ct e') S)) → loopR body (pre ++ x :: post) env S = .ok (.rt w) S
  | [], env, h0, _ => by
    rw [List.nil_append, loopR, hx env h0]; rfl
  | y :: pre, env, h0, hs => by
    obtain ⟨e', hi, h1⟩ := hs y List.mem_cons_self env h0
    have ih := loop_preR (post := post) I hx hi fun z hz => hs z (List.mem_cons_of_mem _ hz)
    rw [List.cons_append]
    rcases h1 with h1 | h1 <;> (rw [loopR, h1]; exact ih)
theorem range_split {i k j : Int} (h1 : i ≤ k) (h2 : k < j) : intRange i j = intRange i k ++ .int k :: intRange (k + 1) j := by
  unfold intRange
  rw [show (j - i).toNat = (k - i).toNat + ((j - (k + 1)).toNat + 1) by omega, List.range_add, List.map_append, List.range_succ_eq_map, List.map_cons, List.map_cons, List.map_map, List.map_map]
  congr 1
  congr 1
  · simp; omega
  · apply List.map_congr_left
    intro a _
    simp only [Function.comp]
    congr 1
    omega
theorem cut_mid {α : Type} {s : List α} {i j : Int} (h0 : 0 ≤ i) (h1 : i ≤ j) (h2 : j ≤ s.length) : cut s (some i) (some j) = (s.drop i.toNat).take (j - i).toNat := by
  unfold cut sIx
  simp only [show ¬i < 0 by omega, show ¬j < 0 by omega, if_false]
  rw [Nat.min_eq_left (by omega), Nat.min_eq_left (by omega)]
  congr 1
  omega
theorem at_m1d {xs : List D} {x : D} (h : xs.getLast? = some x) : atI xs (-1) = some x := by
  have l : 0 < xs.length := by
    cases xs with
    | nil => cases h
    | cons _ _ => simp
  unfold atI ixN
  rw [if_neg (by decide), if_pos (by omega)]
  simp only [Option.bind_some]
  rw [show (-1 + (xs.length : Int)).toNat = xs.length - 1 by omega, ← h, List.getLast?_eq_getElem?]
/-- items one by one, the store standing still but for the list that is made -/
theorem accR_at {α : Type} {f : D → Store → R (Option D)} {c : α → D} {g : α → Option D} {S : Store} : ∀ {xs : List α} {acc : List D}, (∀ x ∈ xs, ∀ acc, f (c x) (S ++ [.hid acc]) = .ok (g x) (S ++ [.hid acc])) → acc.length + xs.length ≤ lim → accR f S.length (xs.map c) (S ++ [.hid acc]) = .ok () (S ++ [.hid (acc ++ xs.filterMap g)])
  | [], acc, _, _ => by simp [accR]
  | x :: xs, acc, h, hl => by
    rw [List.map_cons, accR, h x List.mem_cons_self acc, R.bind_ok]
    simp only [List.length_cons] at hl
    cases e : g x with
    | none =>
      simp only
      rw [accR_at (fun y hy => h y (List.mem_cons_of_mem _ hy)) (by omega), List.filterMap_cons, e]
    | some y =>
      have e1 : (S ++ [SO.hid acc])[S.length]? = some (.hid acc) := by simp
      simp only [e1]
      rw [if_pos (by omega), last_set, accR_at (fun y hy => h y (List.mem_cons_of_mem _ hy)) (by simp; omega), List.filterMap_cons, e]
      simp
section
variable {T : Tab} {Φ : Phi}
theorem loop_ret {n0 : Nat} {tg : Tn} {it : It} {body : Sms} {env : Env} {S S1 : Store} {xs : List D} (I : Env → Prop) (q : D → Bool) (r : D → W) (hi : evI T Φ it env S = .ok xs S1) (h0 : I env)
    (hs : ∀ x ∈ xs, ∀ env, I env → ∃ e, bindN tg x env = some e ∧ if q x then evSs T Φ n0 body e S1 = .ok (.rt (r x)) S1 else ∃ e', I e' ∧ (evSs T Φ n0 body e S1 = .ok (.nx e') S1 ∨ evSs T Φ n0 body e S1 = .ok (.ct e') S1)) :
    (∀ x, xs.find? q = some x → evS T Φ n0 (.loop tg it body) env S = .ok (.rt (r x)) S1) ∧ (xs.find? q = none → ∃ e', I e' ∧ evS T Φ n0 (.loop tg it body) env S = .ok (.nx e') S1) := by
  rw [q_loop, hi]
  refine loop_first I q r h0 fun x hx env h => ?_
  obtain ⟨e, h1, h2⟩ := hs x hx env h
  simp only [h1]
  exact h2
theorem rng1_small {b : Ex} {env : Env} {S S2 : Store} {j : Int} (hb : evE T Φ b env S = .ok (.d (.int j)) S2) (h3 : -100000 ≤ j) (h4 : j ≤ 100000) : evI T Φ (.rng1 b) env S = .ok (intRange 0 j) S2 := by
  simp (disch := omega) [hb]
theorem rng2_small {a b : Ex} {env : Env} {S S1 S2 : Store} {i j : Int} (ha : evE T Φ a env S = .ok (.d (.int i)) S1) (hb : evE T Φ b env S1 = .ok (.d (.int j)) S2) (h1 : -100000 ≤ i) (h2 : i ≤ 100000) (h3 : -100000 ≤ j) (h4 : j ≤ 100000) : evI T Φ (.rng2 a b) env S = .ok (intRange i j) S2 := by
  simp (disch := omega) [ha, hb]
theorem evJ_str {e : Ex} {es : Exs} {acc s : Tx} {env : Env} {S S1 : Store} (h : evE T Φ e env S = .ok (.d (.str s)) S1) (hl : acc.length + s.length ≤ 4000000) : evJ T Φ (.cons e es) acc env S = evJ T Φ es (acc ++ s) env S1 := by
  show ((evE T Φ e env S).bind fun w S1 => match w with
    | .d (.str s) => if acc.length + s.length ≤ lim then evJ T Φ es (acc ++ s) env S1 else .bad
    | _ => .bad) = _
  rw [h]
  exact if_pos hl
theorem cmpr_fil_at {α : Type} {elt cs : Ex} {tg : Tn} {it : It} {own : List Nat} {env : Env} {S S1 : Store} {ys : List α} {c : α → D} (q : α → Bool) (g : α → D) (hi : evI T Φ it env S = .ok (ys.map c) S1) (hl : ys.length ≤ 4000000)
    (hs : ∀ x ∈ ys, ∀ acc, ∃ e, bindN tg (c x) (wipe own env) = some e ∧ evT T Φ cs (evE T Φ cs) e (S1 ++ [.hid acc]) = .ok (q x) (S1 ++ [.hid acc]) ∧ evE T Φ elt e (S1 ++ [.hid acc]) = .ok (.d (g x)) (S1 ++ [.hid acc])) :
    evE T Φ (.cmpr false elt tg it (.so cs) own) env S = .ok (.d (.lst ((ys.filter q).map g))) S1 := by
  rw [q_cmpr, hi, R.bind_ok, accR_at (g := fun x => if q x then some (g x) else none) (fun x hx acc => by
    obtain ⟨e, h1, h3, h2⟩ := hs x hx acc
    cases hq : q x <;> simp [h1, h2, h3, hq]) (by unfold lim; simpa using hl)]
  rw [fm_filter]
  simp [accE_data]
theorem cmpr_map_at {α : Type} {elt : Ex} {tg : Tn} {it : It} {own : List Nat} {env : Env} {S S1 : Store} {ys : List α} {c : α → D} (g : α → D) (hi : evI T Φ it env S = .ok (ys.map c) S1) (hl : ys.length ≤ 4000000)
    (hs : ∀ x ∈ ys, ∀ acc, ∃ e, bindN tg (c x) (wipe own env) = some e ∧ evE T Φ elt e (S1 ++ [.hid acc]) = .ok (.d (g x)) (S1 ++ [.hid acc])) :
    evE T Φ (.cmpr false elt tg it .no own) env S = .ok (.d (.lst (ys.map g))) S1 := by
  rw [q_cmpr, hi, R.bind_ok, accR_at (g := fun x => some (g x)) (fun x hx acc => by
    obtain ⟨e, h1, h2⟩ := hs x hx acc
    simp [h1, h2]) (by unfold lim; simpa using hl)]
  simp [accE_data]
@[simp] theorem biW_non {b : Bi} {ws : List W} {S : Store} : biW T Φ b (.d .non :: ws) S = (R.of ((rds S (.d .non :: ws)).bind (bi b)) S).bind fun z S => .ok (.d z) S := by cases b <;> cases ws <;> rfl
theorem mu_app {a e : Ex} {env : Env} {S S2 : Store} {p : Nat} {xs xs2 : List D} {y : D} (ha : evE T Φ a env S = .ok (.loc p) S) (hl : S[p]? = some (.lst xs)) (he : evE T Φ e env S = .ok (.d y) S2) (h2 : S2[p]? = some (.lst xs2)) (hn : xs2.length < 4000000) :
    evE T Φ (.mu .append a (.cons e .nil)) env S = .ok (.d .non) (S2.set p (.lst (xs2 ++ [y]))) := by
  show ((evE T Φ a env S).bind fun x S1 => if isLs S1 x then (evEs T Φ (.cons e .nil) env S1).bind fun ws S2 => (R.of (dats ws) S2).bind fun ys S3 => muR .append x ys S3 else .bad) = _
  have i : isLs S (.loc p) = true := by unfold isLs; simp only [hl]
  rw [ha, R.bind_ok, if_pos i]
  have m : muR .append (.loc p) [y] S2 = R.ok (W.d D.non) (S2.set p (.lst (xs2 ++ [y]))) := by
    unfold muR
    simp only [h2]
    show (match (if xs2.length < lim then some (D.non, xs2 ++ [y]) else none) with
      | some (r, zs) => R.ok (W.d r) (S2.set p (.lst zs))
      | none => R.bad) = _
    rw [if_pos (by unfold lim; omega)]
  simp [he, m]
theorem len_loc {S : Store} {p : Nat} {xs : List D} (h : rd S (.loc p) = some (.lst xs)) : biW T Φ .len [.loc p] S = .ok (.d (.int (xs.length : Nat))) S := by
  show (R.of ((rds S [.loc p]).bind (bi .len)) S).bind _ = _
  simp [h]
theorem loop_hit {n0 : Nat} {tg : Tn} {it : It} {body : Sms} {env : Env} {S S1 : Store} {pre post : List D} {x : D} {w : W} (I : Env → Prop) (hi : evI T Φ it env S = .ok (pre ++ x :: post) S1) (h0 : I env)
    (hs : ∀ y ∈ pre, ∀ env, I env → ∃ e, bindN tg y env = some e ∧ ∃ e', I e' ∧ (evSs T Φ n0 body e S1 = .ok (.nx e') S1 ∨ evSs T Φ n0 body e S1 = .ok (.ct e') S1))
    (hx : ∀ env, I env → ∃ e, bindN tg x env = some e ∧ evSs T Φ n0 body e S1 = .ok (.rt w) S1) : evS T Φ n0 (.loop tg it body) env S = .ok (.rt w) S1 := by
  rw [q_loop, hi]
  refine loop_preR I (fun env h => ?_) h0 fun y hy env h => ?_
  · obtain ⟨e, h1, h2⟩ := hx env h
    simp only [h1]
    exact h2
  · obtain ⟨e, h1, e', h2, h3⟩ := hs y hy env h
    simp only [h1]
    exact ⟨e', h2, h3⟩
theorem loop_cnt {n0 : Nat} {tg : Tn} {it : It} {body : Sms} {env : Env} {S S1 : Store} {xs : List D} (I : Nat → Env → Store → Prop) (hi : evI T Φ it env S = .ok xs S1) (h0 : I 0 env S1)
    (hs : ∀ k x env S, xs[k]? = some x → I k env S → ∃ e e' S', bindN tg x env = some e ∧ (evSs T Φ n0 body e S = .ok (.nx e') S' ∨ evSs T Φ n0 body e S = .ok (.ct e') S') ∧ I (k + 1) e' S') :
    ∃ e' S', evS T Φ n0 (.loop tg it body) env S = .ok (.nx e') S' ∧ I xs.length e' S' := by
  rw [q_loop, hi]
  refine loop_cntR I h0 fun k x env S hx h => ?_
  obtain ⟨e, e', S', h1, h2, h3⟩ := hs k x env S hx h
  exact ⟨e', S', by simp [h1]; exact h2, h3⟩
theorem cmpW_own {o : COp} {c : Nat} {cl : Cl} {g : Nat} {vs : List D} {y : W} {S : Store} (hc : T.cls[c]? = some cl) (hg : cl.eqf = some g) (t : Tag) (ht : tagW T S y = some t) : cmpW T Φ .eq (.d (.ins c vs)) y S = (Φ g [.d (.ins c vs), y] S).noex.bind (fun r S1 => (asBl r S1).bind fun k S2 => .ok (.d (.bl k)) S2) ∧
    cmpW T Φ .ne (.d (.ins c vs)) y S = (Φ g [.d (.ins c vs), y] S).noex.bind (fun r S1 => (asBl r S1).bind fun k S2 => .ok (.d (.bl (!k))) S2) := by
  have e : spec T Cl.eqf S (.d (.ins c vs)) = some g := by simp [spec, clsOf, hc, hg]
  unfold cmpW
  rw [e, ht]
  exact ⟨rfl, rfl⟩
theorem repr_own {c : Nat} {cl : Cl} {g : Nat} {vs : List D} {S : Store} (hc : T.cls[c]? = some cl) (hg : cl.reprf = some g) : biW T Φ .repr [.d (.ins c vs)] S = (Φ g [.d (.ins c vs)] S).noex.bind asStr := by
  have e : spec T Cl.reprf S (.d (.ins c vs)) = some g := by simp [spec, clsOf, hc, hg]
  unfold biW
  simp only [e]
theorem str_own {c : Nat} {cl : Cl} {g : Nat} {vs : List D} {S : Store} (hc : T.cls[c]? = some cl) (hg : cl.strf = some g) : biW T Φ .str [.d (.ins c vs)] S = (Φ g [.d (.ins c vs)] S).noex.bind asStr := by
  have e : spec T Cl.strf S (.d (.ins c vs)) = some g := by simp [spec, clsOf, hc, hg]
  unfold biW
  simp only [e]
end
end Ev
end
section
set_option linter.all false
set_option autoImplicit false
set_option maxRecDepth 100000
set_option maxHeartbeats 0
namespace K51
open PySem PySem.Spec PyProof.Rows L2 Ev
def clsBody : Stmt → List Stmt
  | .ClassDef _ _ _ b _ _ _ _ _ _ _ => b
  | _ => []
def top (i : Nat) : Stmt := PySem.Challenge.pw_ringrows_k51_pictures_told.main.body.getD i (.Pass ⟨0, 0, 0, 0⟩)
def inCls (i j : Nat) : Stmt := (clsBody (top i)).getD j (.Pass ⟨0, 0, 0, 0⟩)
def cm0_0 : Ex :=
    .cmpr false (.call 1 (.cons (.call 2 (.cons (.var 0) (.cons (.var 1) (.nil))) (.nil) []) (.nil)) (.nil) []) (.name 1) (.rng1 (.bi .max2 (.cons (.con (.int 1)) (.cons (.bi .min2 (.cons (.con (.int 3)) (.cons (.bi .len (.cons (.var 0) (.nil))) (.nil)))) (.nil))))) .no [1]
/-- law : script, k -/
def b0 : Sms :=
    .cons (.ret (.bi .all (.cons (cm0_0) (.nil))))
    (.nil)
def cm1_0 : Ex :=
    .cmpr false (.tup (.cons (.var 7) (.cons (.var 8) (.cons (.call 6 (.cons (.var 9) (.nil)) (.nil) []) (.nil))))) (.tup [.name 7, .name 8, .name 9]) (.seq (.var 1)) .no [7, 8, 9]
def cm1_1 : Ex :=
    .cmpr false (.cmp .eq (.var 4) (.var 10)) (.name 10) (.seq (.lst false (.cons (.con (.non)) (.cons (.att (.var 4) 1) (.cons (.bi .list (.cons (.var 1) (.nil))) (.cons (.bi .repr (.cons (.var 4) (.nil))) (.cons (.bi .str (.cons (.var 4) (.nil))) (.cons (.con (.int 0)) (.nil))))))))) .no [10]
/-- _law_right : pot, some, given, turned_now, shape, bent, mate, who, later, mark, thing -/
def b1 : Sms :=
    .cons (.asg (.name 1) (.frz (.call 3 (.cons (.var 0) (.nil)) (.nil) [])))
    (.cons (.asg (.name 2) (.thaw (.var 1)))
    (.cons (.unp [.name 4, .name 5] (.tup (.cons (.frz (.make 0 (.cons (.var 2) (.nil)) (.nil) [])) (.cons (.call 4 (.cons (.var 0) (.cons (.var 1) (.nil))) (.nil) []) (.nil)))))
    (.cons (.expr (.mu .append (.var 2) (.cons (.con (.non)) (.nil))))
    (.cons (.asg (.sub (.var 2) (.con (.int 0))) (.con (.non)))
    (.cons (.ite (.or (.not (.call 5 (.cons (.var 4) (.cons (.var 1) (.nil))) (.nil) [])) (.not (.call 5 (.cons (.frz (.make 0 (.nil) (.cons (.bi .tuple (.cons (.rev (.var 1)) (.nil))) (.nil)) [.pos 0, .kw 0])) (.cons (.var 1) (.nil))) (.nil) [])))
    (.cons (.ret (.con (.bl false)))
    (.nil))
    (.nil))
    (.cons (.asg (.name 3) (cm1_0))
    (.cons (.ite (.or (.not (.call 5 (.cons (.meth (.var 4) 4 (.nil) (.nil) []) (.cons (.var 3) (.nil))) (.nil) [])) (.cmp .ne (.meth (.var 4) 4 (.nil) (.nil) []) (.frz (.make 0 (.cons (.var 3) (.nil)) (.nil) []))))
    (.cons (.ret (.con (.bl false)))
    (.nil))
    (.nil))
    (.cons (.ite (.or (.cmp .ne (.meth (.meth (.var 4) 4 (.nil) (.nil) []) 4 (.nil) (.nil) []) (.var 4)) (.or (.cmp .eq (.var 4) (.meth (.var 4) 4 (.nil) (.nil) [])) (.cmp .ne (.var 4) (.frz (.make 0 (.cons (.rev (.var 1)) (.nil)) (.nil) [])))))
    (.cons (.ret (.con (.bl false)))
    (.nil))
    (.nil))
    (.cons (.ite (.cmp .notN (.var 5) (.con (.non)))
    (.cons (.asg (.name 6) (.frz (.make 0 (.cons (.var 5) (.nil)) (.nil) [])))
    (.cons (.ite (.or (.cmp .eq (.var 6) (.var 4)) (.not (.call 5 (.cons (.var 6) (.cons (.var 5) (.nil))) (.nil) [])))
    (.cons (.ret (.con (.bl false)))
    (.nil))
    (.nil))
    (.nil)))
    (.nil))
    (.cons (.ite (.bi .any (.cons (cm1_1) (.nil)))
    (.cons (.ret (.con (.bl false)))
    (.nil))
    (.nil))
    (.cons (.ret (.call 5 (.cons (.var 4) (.cons (.var 1) (.nil))) (.nil) []))
    (.nil))))))))))))
/-- _law_pot : script, k, cell_now -/
def b2 : Sms :=
    .cons (.asg (.name 2) (.ite (.cmp .lt (.var 1) (.bi .len (.cons (.var 0) (.nil)))) (.bi .abs (.cons (.idx (.var 0) (.var 1)) (.nil))) (.bin .add (.bin .mul (.con (.int 37)) (.var 1)) (.con (.int 19)))))
    (.cons (.ret (.lst true (.cons (.bi .max2 (.cons (.con (.int 0)) (.cons (.bin .sub (.var 2) (.bin .pow (.con (.int 10)) (.con (.int 18)))) (.nil)))) (.cons (.bin .add (.bin .mod (.bin .mul (.bi .int (.cons (.bin .add (.bin .mod (.bi .int (.cons (.var 2) (.nil))) (.con (.int 2147483549))) (.con (.int 13))) (.nil))) (.bin .pow (.bin .add (.bin .mul (.con (.int 2)) (.var 1)) (.con (.int 7))) (.con (.int 3)))) (.con (.int 2147483477))) (.con (.int 1))) (.nil)))))
    (.nil))
def cm3_0 : Ex :=
    .cmprL false (.slc (.var 4) .no (.so (.con (.int 2)))) (.name 4) (.var 1) .no [4]
def lp3_0 : Sm :=
    .loop (.name 2) (.rng1 (.call 13 (.cons (.var 0) (.cons (.con (.int 5)) (.nil))) (.nil) []))
    (.cons (.asg (.name 3) (.tup (.cons (.bin .sub (.call 13 (.cons (.var 0) (.cons (.con (.int 11)) (.nil))) (.nil) []) (.con (.int 5))) (.cons (.call 13 (.cons (.var 0) (.cons (.con (.int 4)) (.nil))) (.nil) []) (.cons (.idx (.con (.str [104, 97])) (.call 13 (.cons (.var 0) (.cons (.con (.int 2)) (.nil))) (.nil) [])) (.nil))))))
    (.cons (.ite (.cmp .notIn (.slc (.var 3) .no (.so (.con (.int 2)))) (cm3_0))
    (.cons (.expr (.mu .insert (.var 1) (.cons (.call 13 (.cons (.var 0) (.cons (.bin .add (.bi .len (.cons (.var 1) (.nil))) (.con (.int 1))) (.nil))) (.nil) []) (.cons (.var 3) (.nil)))))
    (.nil))
    (.nil))
    (.nil)))
/-- _law_some_cells : pot, found, turn, cell, near -/
def b3 : Sms :=
    .cons (.asg (.name 1) (.lst true (.cons (.tup (.cons (.bin .sub (.call 13 (.cons (.var 0) (.cons (.con (.int 11)) (.nil))) (.nil) []) (.con (.int 5))) (.cons (.con (.int 0)) (.cons (.idx (.con (.str [104, 97])) (.call 13 (.cons (.var 0) (.cons (.con (.int 2)) (.nil))) (.nil) [])) (.nil))))) (.nil))))
    (.cons (lp3_0)
    (.cons (.ret (.var 1))
    (.nil)))
def cm4_0 : Ex :=
    .cmpr false (.idx (.var 9) (.con (.int 1))) (.name 9) (.seq (.var 8)) .no [9]
def cm4_1 : Ex :=
    .cmpr false (.slc (.var 9) .no (.so (.con (.int 2)))) (.name 9) (.seq (.var 1)) .no [9]
/-- _law_bent : pot, some, cell, at, way, who, later, mark, left, near -/
def b4 : Sms :=
    .cons (.par [3, 4] (.cons (.call 13 (.cons (.var 0) (.cons (.bi .len (.cons (.var 1) (.nil))) (.nil))) (.nil) []) (.cons (.call 13 (.cons (.var 0) (.cons (.con (.int 3)) (.nil))) (.nil) []) (.nil))))
    (.cons (.unp [.name 5, .name 6, .name 7] (.idx (.var 1) (.var 3)))
    (.cons (.ite (.cmp .eq (.var 4) (.con (.int 0)))
    (.cons (.ret (.bin .add (.bin .add (.slc (.var 1) .no (.so (.var 3))) (.lst false (.cons (.tup (.cons (.var 5) (.cons (.var 6) (.cons (.call 6 (.cons (.var 7) (.nil)) (.nil) []) (.nil))))) (.nil)))) (.slc (.var 1) (.so (.bin .add (.var 3) (.con (.int 1)))) .no)))
    (.nil))
    (.nil))
    (.cons (.ite (.and (.cmp .eq (.var 4) (.con (.int 1))) (.cmp .gt (.bi .len (.cons (.var 1) (.nil))) (.con (.int 1))))
    (.cons (.asg (.name 8) (.bin .add (.slc (.var 1) .no (.so (.var 3))) (.slc (.var 1) (.so (.bin .add (.var 3) (.con (.int 1)))) .no)))
    (.cons (.ret (.ite (.cmp .in_ (.con (.int 0)) (cm4_0)) (.var 8) (.con (.non))))
    (.nil)))
    (.nil))
    (.cons (.asg (.name 2) (.tup (.cons (.bin .sub (.bin .mod (.bin .add (.var 5) (.con (.int 6))) (.con (.int 11))) (.con (.int 5))) (.cons (.var 6) (.cons (.var 7) (.nil))))))
    (.cons (.ite (.cmp .in_ (.slc (.var 2) .no (.so (.con (.int 2)))) (cm4_1))
    (.cons (.ret (.con (.non)))
    (.nil))
    (.nil))
    (.cons (.ret (.bin .add (.bin .add (.slc (.var 1) .no (.so (.var 3))) (.lst false (.cons (.var 2) (.nil)))) (.slc (.var 1) (.so (.bin .add (.var 3) (.con (.int 1)))) .no)))
    (.nil)))))))
def cm5_0 : Ex :=
    .cmpr false (.bin .add (.bin .add (.bin .add (.bin .add (.bi .str (.cons (.var 4) (.nil))) (.con (.str [64]))) (.bi .str (.cons (.var 5) (.nil)))) (.con (.str [61]))) (.var 6)) (.tup [.name 4, .name 5, .name 6]) (.seq (.var 2)) .no [4, 5, 6]
def cm5_1 : Ex :=
    .cmpr false (.var 5) (.tup [.name 4, .name 5, .name 6]) (.seq (.var 2)) .no [4, 5, 6]
/-- _law_told_right : shape, some, due, text_now, who, later, mark -/
def b5 : Sms :=
    .cons (.asg (.name 2) (.frz (.call 14 (.cons (.var 1) (.nil)) (.nil) [])))
    (.cons (.asg (.name 3) (.bm .join (.con (.str [32])) (.cons (cm5_0) (.nil))))
    (.cons (.ite (.or (.cmp .ne (.bi .repr (.cons (.att (.var 0) 1) (.nil))) (.bi .repr (.cons (.bi .tuple (.cons (.var 2) (.nil))) (.nil)))) (.cmp .ne (.bi .repr (.cons (.att (.var 0) 2) (.nil))) (.bi .repr (.cons (.bi .max1 (.cons (cm5_1) (.nil))) (.nil)))))
    (.cons (.ret (.con (.bl false)))
    (.nil))
    (.nil))
    (.cons (.ret (.and (.cmp .eq (.bi .str (.cons (.var 0) (.nil))) (.var 3)) (.cmp .eq (.bi .repr (.cons (.var 0) (.nil))) (.bin .add (.bin .add (.con (.str [80, 105, 99, 116, 117, 114, 101, 40])) (.bi .repr (.cons (.var 2) (.nil)))) (.con (.str [41]))))))
    (.nil))))
/-- _law_other : mark -/
def b6 : Sms :=
    .cons (.ret (.ite (.cmp .eq (.var 0) (.con (.str [104]))) (.con (.str [97])) (.con (.str [104]))))
    (.nil)
def cm7_0 : Ex :=
    .cmpr false (.tup (.cons (.var 1) (.cons (.var 2) (.cons (.call 16 (.cons (.var 3) (.nil)) (.nil) []) (.nil))))) (.tup [.name 1, .name 2, .name 3]) (.seq (.att (.var 0) 0)) .no [1, 2, 3]
/-- Picture.contrary : self, team, day, mark -/
def b7 : Sms :=
    .cons (.ret (.frz (.make 0 (.cons (cm7_0) (.nil)) (.nil) [])))
    (.nil)
/-- Picture.cells : self -/
def b8 : Sms :=
    .cons (.ret (.att (.var 0) 0))
    (.nil)
/-- Picture.__eq__ : self, other -/
def b9 : Sms :=
    .cons (.ret (.and (.isi (.var 1) [.cls 0]) (.cmp .eq (.att (.var 0) 0) (.att (.var 1) 0))))
    (.nil)
/-- Picture.__repr__ : self -/
def b10 : Sms :=
    .cons (.ret (.fst (.cons (.con (.str [80, 105, 99, 116, 117, 114, 101, 40])) (.cons (.fmr (.bi .list (.cons (.att (.var 0) 0) (.nil)))) (.cons (.con (.str [41])) (.nil))))))
    (.nil)
def cm11_0 : Ex :=
    .cmpr false (.fst (.cons (.fmt (.var 1)) (.cons (.con (.str [64])) (.cons (.fmt (.var 2)) (.cons (.con (.str [61])) (.cons (.fmt (.var 3)) (.nil))))))) (.tup [.name 1, .name 2, .name 3]) (.seq (.att (.var 0) 0)) .no [1, 2, 3]
/-- Picture.__str__ : self, team, day, mark -/
def b11 : Sms :=
    .cons (.ret (.bm .join (.con (.str [32])) (.cons (cm11_0) (.nil))))
    (.nil)
/-- Picture.__init__ : self, cells -/
def b12 : Sms :=
    .cons (.expr (.call 17 (.cons (.var 1) (.nil)) (.nil) []))
    (.cons (.satt (.var 0) 0 (.bi .tuple (.cons (.bi .sorted (.cons (.var 1) (.nil))) (.nil))))
    (.nil))
/-- _law_draw : pot, many, digit -/
def b13 : Sms :=
    .cons (.ite (.cmp .gt (.idx (.var 0) (.con (.int 0))) (.con (.int 0)))
    (.cons (.unp [.sub (.var 0) (.con (.int 0)), .name 2] (.bi .divmod (.cons (.idx (.var 0) (.con (.int 0))) (.cons (.var 1) (.nil)))))
    (.cons (.ret (.var 2))
    (.nil)))
    (.nil))
    (.cons (.asg (.sub (.var 0) (.con (.int 1))) (.bin .mod (.bi .int (.cons (.bin .add (.bin .mul (.idx (.var 0) (.con (.int 1))) (.con (.int 48271))) (.con (.int 12043))) (.nil))) (.con (.int 2147483587))))
    (.cons (.ret (.bin .mod (.bi .int (.cons (.bin .fdiv (.bin .mod (.bi .int (.cons (.bin .mul (.idx (.var 0) (.con (.int 1))) (.idx (.var 0) (.con (.int 1)))) (.nil))) (.con (.int 2147483549))) (.con (.int 13))) (.nil))) (.var 1)))
    (.nil)))
def cm14_0 : Ex :=
    .cmpr false (.var 4) (.name 4) (.seq (.var 0)) (.so (.cmp .eq (.slc (.var 4) .no (.so (.con (.int 2)))) (.tup (.cons (.var 2) (.cons (.var 3) (.nil)))))) [4]
def lp14_0 : Sm :=
    .loop (.name 3) (.rng1 (.con (.int 4)))
    (.cons (.expr (.mu .extend (.var 1) (.cons (cm14_0) (.nil))))
    (.nil))
def lp14_1 : Sm :=
    .loop (.name 2) (.rng2 (.neg (.con (.int 5))) (.con (.int 6)))
    (.cons (lp14_0)
    (.nil))
/-- _law_order : some, found, who, later, cell -/
def b14 : Sms :=
    .cons (.asg (.name 1) (.lst true (.nil)))
    (.cons (lp14_1)
    (.cons (.ret (.var 1))
    (.nil)))
def cm15_0 : Ex :=
    .cmpr false (.var 2) (.tup [.name 1, .name 2, .name 3]) (.seq (.att (.var 0) 0)) .no [1, 2, 3]
/-- Picture.span : self, team, day, mark -/
def b15 : Sms :=
    .cons (.ret (.bi .max1 (.cons (cm15_0) (.nil))))
    (.nil)
def cm16_0 : Ex :=
    .cmpr false (.idx (.glo 0) (.var 1)) (.name 1) (.seq (.var 0)) .no [1]
/-- contrary_of : marks, mark -/
def b16 : Sms :=
    .cons (.ret (.bm .join (.con (.str [])) (.cons (cm16_0) (.nil))))
    (.nil)
def lp17_0 : Sm :=
    .loopL true (.tup [.name 2, .name 3]) (.var 0)
    (.cons (.ite (.or (.not (.call 19 (.cons (.var 3) (.nil)) (.nil) [])) (.cmp .in_ (.slc (.var 3) .no (.so (.con (.int 2)))) (.var 1)))
    (.cons (.rais 0 .nil)
    (.nil))
    (.nil))
    (.cons (.expr (.mu .append (.var 1) (.cons (.slc (.var 3) .no (.so (.con (.int 2)))) (.nil))))
    (.nil)))
def cm17_0 : Ex :=
    .cmpr false (.var 5) (.tup [.name 4, .name 5]) (.seq (.var 1)) .no [4, 5]
/-- want_cells : value, known, position, cell, team, day -/
def b17 : Sms :=
    .cons (.ite (.or (.not (.call 18 (.cons (.var 0) (.nil)) (.nil) [])) (.cmp .eq (.bi .len (.cons (.var 0) (.nil))) (.con (.int 0))))
    (.cons (.rais 0 .nil)
    (.nil))
    (.nil))
    (.cons (.asg (.name 1) (.lst true (.nil)))
    (.cons (lp17_0)
    (.frz 1 (.cons (.ite (.cmp .notIn (.con (.int 0)) (cm17_0))
    (.cons (.rais 0 .nil)
    (.nil))
    (.nil))
    (.cons (.ite (.cmp .gt (.bi .len (.cons (.var 0) (.nil))) (.glo 1))
    (.cons (.rais 0 .nil)
    (.nil))
    (.nil))
    (.nil))))))
/-- is_list : value -/
def b18 : Sms :=
    .cons (.ret (.isi (.var 0) [.list, .tuple]))
    (.nil)
/-- is_cell : value, team, day, mark -/
def b19 : Sms :=
    .cons (.ite (.or (.not (.isi (.var 0) [.tuple])) (.cmp .ne (.bi .len (.cons (.var 0) (.nil))) (.con (.int 3))))
    (.cons (.ret (.con (.bl false)))
    (.nil))
    (.nil))
    (.cons (.unp [.name 1, .name 2, .name 3] (.var 0))
    (.cons (.ite (.or (.not (.call 20 (.cons (.var 1) (.nil)) (.nil) [])) (.cmp .gt (.bi .abs (.cons (.var 1) (.nil))) (.glo 2)))
    (.cons (.ret (.con (.bl false)))
    (.nil))
    (.nil))
    (.cons (.ret (.and (.call 21 (.cons (.var 2) (.nil)) (.nil) []) (.and (.cmp .le (.var 2) (.glo 3)) (.call 22 (.cons (.var 3) (.nil)) (.nil) []))))
    (.nil))))
/-- is_integer : value -/
def b20 : Sms :=
    .cons (.ret (.and (.isi (.var 0) [.int]) (.not (.isi (.var 0) [.bool]))))
    (.nil)
/-- is_count : value -/
def b21 : Sms :=
    .cons (.ret (.and (.call 20 (.cons (.var 0) (.nil)) (.nil) []) (.cmp .ge (.var 0) (.con (.int 0)))))
    (.nil)
/-- is_mark : value -/
def b22 : Sms :=
    .cons (.ret (.and (.isi (.var 0) [.str]) (.cmp .in_ (.var 0) (.glo 0))))
    (.nil)
def T : Tab where
  fns := [⟨1, 2, [], b0⟩,
    ⟨1, 11, [], b1⟩,
    ⟨2, 3, [], b2⟩,
    ⟨1, 5, [], b3⟩,
    ⟨2, 10, [], b4⟩,
    ⟨2, 7, [], b5⟩,
    ⟨1, 1, [], b6⟩,
    ⟨1, 4, [], b7⟩,
    ⟨1, 1, [], b8⟩,
    ⟨2, 2, [], b9⟩,
    ⟨1, 1, [], b10⟩,
    ⟨1, 4, [], b11⟩,
    ⟨2, 2, [], b12⟩,
    ⟨2, 3, [], b13⟩,
    ⟨1, 5, [], b14⟩,
    ⟨1, 4, [], b15⟩,
    ⟨1, 2, [], b16⟩,
    ⟨1, 6, [], b17⟩,
    ⟨1, 1, [], b18⟩,
    ⟨1, 4, [], b19⟩,
    ⟨1, 1, [], b20⟩,
    ⟨1, 1, [], b21⟩,
    ⟨1, 1, [], b22⟩]
  cls := [⟨12, [0], [(0, .fld 0), (1, .prop 8), (2, .prop 15)], [(4, 7)], [0], some 9, some 11, some 10, none⟩]
  glob := [.dic [.str [104], .str [97]] [.str [97], .str [104]], .int 5, .int 5, .int 3]
def nm0 : List Str := ["script", "k"]
def nm1 : List Str := ["pot", "some", "given", "turned_now", "shape", "bent", "mate", "who", "later", "mark", "thing"]
def nm2 : List Str := ["script", "k", "cell_now"]
def nm3 : List Str := ["pot", "found", "turn", "cell", "near"]
def nm4 : List Str := ["pot", "some", "cell", "at", "way", "who", "later", "mark", "left", "near"]
def nm5 : List Str := ["shape", "some", "due", "text_now", "who", "later", "mark"]
def nm6 : List Str := ["mark"]
def nm7 : List Str := ["self", "team", "day", "mark"]
def nm8 : List Str := ["self"]
def nm9 : List Str := ["self", "other"]
def nm10 : List Str := ["self"]
def nm11 : List Str := ["self", "team", "day", "mark"]
def nm12 : List Str := ["self", "cells"]
def nm13 : List Str := ["pot", "many", "digit"]
def nm14 : List Str := ["some", "found", "who", "later", "cell"]
def nm15 : List Str := ["self", "team", "day", "mark"]
def nm16 : List Str := ["marks", "mark"]
def nm17 : List Str := ["value", "known", "position", "cell", "team", "day"]
def nm18 : List Str := ["value"]
def nm19 : List Str := ["value", "team", "day", "mark"]
def nm20 : List Str := ["value"]
def nm21 : List Str := ["value"]
def nm22 : List Str := ["value"]
def Nall : List (List Str) := [nm0, nm1, nm2, nm3, nm4, nm5, nm6, nm7, nm8, nm9, nm10, nm11, nm12, nm13, nm14, nm15, nm16, nm17, nm18, nm19, nm20, nm21, nm22]
def Y : Txt where
  T := T
  defs := [⟨.glo "law", "law", "law", defArgs (top 31), defBody (top 31), defScope (top 31), []⟩,
    ⟨.glo "_law_right", "_law_right", "_law_right", defArgs (top 30), defBody (top 30), defScope (top 30), []⟩,
    ⟨.glo "_law_pot", "_law_pot", "_law_pot", defArgs (top 22), defBody (top 22), defScope (top 22), []⟩,
    ⟨.glo "_law_some_cells", "_law_some_cells", "_law_some_cells", defArgs (top 26), defBody (top 26), defScope (top 26), []⟩,
    ⟨.glo "_law_bent", "_law_bent", "_law_bent", defArgs (top 29), defBody (top 29), defScope (top 29), []⟩,
    ⟨.glo "_law_told_right", "_law_told_right", "_law_told_right", defArgs (top 28), defBody (top 28), defScope (top 28), []⟩,
    ⟨.glo "_law_other", "_law_other", "_law_other", defArgs (top 25), defBody (top 25), defScope (top 25), []⟩,
    ⟨.meth "Picture" "contrary", "contrary", "Picture.contrary", defArgs (inCls 20 3), defBody (inCls 20 3), defScope (inCls 20 3), []⟩,
    ⟨.getter "Picture" "cells", "cells", "Picture.cells", defArgs (inCls 20 1), defBody (inCls 20 1), defScope (inCls 20 1), []⟩,
    ⟨.meth "Picture" "__eq__", "__eq__", "Picture.__eq__", defArgs (inCls 20 4), defBody (inCls 20 4), defScope (inCls 20 4), []⟩,
    ⟨.meth "Picture" "__repr__", "__repr__", "Picture.__repr__", defArgs (inCls 20 6), defBody (inCls 20 6), defScope (inCls 20 6), []⟩,
    ⟨.meth "Picture" "__str__", "__str__", "Picture.__str__", defArgs (inCls 20 5), defBody (inCls 20 5), defScope (inCls 20 5), []⟩,
    ⟨.meth "Picture" "__init__", "__init__", "Picture.__init__", defArgs (inCls 20 0), defBody (inCls 20 0), defScope (inCls 20 0), []⟩,
    ⟨.glo "_law_draw", "_law_draw", "_law_draw", defArgs (top 23), defBody (top 23), defScope (top 23), []⟩,
    ⟨.glo "_law_order", "_law_order", "_law_order", defArgs (top 27), defBody (top 27), defScope (top 27), []⟩,
    ⟨.getter "Picture" "span", "span", "Picture.span", defArgs (inCls 20 2), defBody (inCls 20 2), defScope (inCls 20 2), []⟩,
    ⟨.glo "contrary_of", "contrary_of", "contrary_of", defArgs (top 8), defBody (top 8), defScope (top 8), []⟩,
    ⟨.glo "want_cells", "want_cells", "want_cells", defArgs (top 19), defBody (top 19), defScope (top 19), []⟩,
    ⟨.glo "is_list", "is_list", "is_list", defArgs (top 6), defBody (top 6), defScope (top 6), []⟩,
    ⟨.glo "is_cell", "is_cell", "is_cell", defArgs (top 18), defBody (top 18), defScope (top 18), []⟩,
    ⟨.glo "is_integer", "is_integer", "is_integer", defArgs (top 4), defBody (top 4), defScope (top 4), []⟩,
    ⟨.glo "is_count", "is_count", "is_count", defArgs (top 5), defBody (top 5), defScope (top 5), []⟩,
    ⟨.glo "is_mark", "is_mark", "is_mark", defArgs (top 7), defBody (top 7), defScope (top 7), []⟩]
  N := Nall
  gn := ["CONTRARIES", "MOST_CELLS", "FARTHEST", "LATEST"]
  cn := ["Picture"]
  an := ["own_cells", "cells", "span", "__init__", "contrary", "__eq__", "__str__", "__repr__"]
  fre := ["all", "range", "max", "min", "len", "list", "tuple", "any", "str", "repr", "abs", "int", "isinstance", "sorted", "divmod", "enumerate", "bool"]
def loose0 : List Str := ["__name__", "HOME", "AWAY", "CONTRARIES", "is_integer", "is_count", "is_list", "is_mark", "contrary_of", "LeagueError", "InvalidCells", "LimitError", "TooMany", "FARTHEST", "LATEST", "MOST_CELLS"]
def loose1 : List Str := ["is_cell", "want_cells", "Picture", "_law_pot", "_law_draw", "_law_pick", "_law_other", "_law_some_cells", "_law_order", "_law_told_right", "_law_bent", "_law_right"]
def loose : List Str := loose0 ++ loose1
-- law at 31, def 0
theorem stat_ok : Y.stat = true := by decide +kernel
theorem sig_ok : Y.sig = true := by decide +kernel
theorem body_ok : Y.bodyB = true := by decide +kernel
end K51
end
section
set_option linter.all false
set_option autoImplicit false
set_option maxRecDepth 100000
set_option maxHeartbeats 0
namespace K51
open PySem PySem.Spec PyProof.Rows L2 Ev
abbrev Rw : PySem.W.OpenRow := PySem.W.OpenLaw.row PySem.Challenge.rw_ringrows_k51_pictures_told
/-- the addresses at which the end of the top is looked at -/
def as : List PySem.Addr := [3, 6, 4, 15, 22, 29, 36, 43, 48, 58, 78, 90, 110, 119, 124, 179, 190, 197, 204, 211, 216, 221, 226, 231, 236, 241, 0, 21, 28, 35, 42, 47, 57, 77, 89, 109, 118, 123, 178, 189, 196, 203, 210, 215, 220, 225, 230, 235, 240, 16, 17, 18, 19, 20, 23, 24, 25, 26, 27, 30, 31, 32, 33, 34, 37, 38, 39, 40, 41, 44, 45, 46, 56, 59, 75, 76, 88, 91, 107, 108, 113, 114, 115, 116, 117, 120, 121, 122, 138, 146, 152, 157, 164, 169, 176, 177, 180, 181, 184, 185, 186, 187, 188, 191, 192, 193, 194, 195, 198, 199, 200, 201, 202, 205, 206, 207, 208, 209, 212, 213, 214, 217, 218, 219, 222, 223, 224, 227, 228, 229, 232, 233, 234, 237, 238, 239, 74, 106, 137, 145, 151, 156, 163, 168, 175, 69, 70, 71, 72, 73, 101, 102, 103, 104, 105, 132, 133, 134, 135, 136, 144, 150, 153, 154, 155, 158, 159, 160, 161, 162, 165, 166, 167, 170, 171, 172, 173, 174]
def hk : PySem.W.Hook where
  α := ObsT
  obs := fun s => Y.obs (He.frG s.heap.get? as)
  val := fun w => Y.val w
  says := fun w h => ∃ K : PySem.W.Frag, K.In h ∧ Y.obs K = Y.val w
  of := fun _ _ e => ⟨_, He.frG_in, e⟩
  keeps := fun _ _ _ ⟨K, hK, c⟩ k => ⟨K, PySem.W.Frag.In.keeps hK k, c⟩
def ob (s : PySem.W.SharedT) : ObsT := Y.obs (He.frG (HandSHeadRun.getT s) as)
theorem ob_eq (s : PySem.W.SharedT) : ob s = hk.obs s.abs := by
  have e : HandSHeadRun.getT s = s.abs.heap.get? := funext (HandSHeadRun.getT_eq s)
  show Y.obs (He.frG (HandSHeadRun.getT s) as) = Y.obs (He.frG s.abs.heap.get? as)
  rw [e]
abbrev Qv : Program := PySem.W.view Rw.prog [31]
noncomputable abbrev En (w : World) (os : OsState) := HandSHeadRun.endF (HandSHeadRun.stepQ (HandSHeadRun.denQ HandSHeadRun.tabQ) Rw.prog w) 2200 Rw.prog w os
def C1 (w : World) : Prop := ∀ os, (En w os).map (fun s => HandSHeadRun.looksF Rw.prog (PySem.W.boot_heap w.params) s.abs) = some true
def C2 (w : World) : Prop := ∀ os, (En w os).map (fun s => HandSHeadRun.seenQ Qv loose (importedModules Rw.prog.main.body) (fun s => PySem.W.xlAt Qv [] s && PySem.W.recOk Rw.toRowW.records s) s.abs) = some (PySem.W.openGood Qv loose)
def C3 (w : World) : Prop := ∀ os, (En w os).map ob = some (Y.val w)
theorem run_of {w : World} (h1 : C1 w) (h2 : C2 w) (h3 : C3 w) : HandSHeadRun.RunEq Rw Qv hk ob 2200 loose w := by
  intro os
  have a := h1 os
  have b := h2 os
  have c := h3 os
  revert a b c
  show (En w os).map _ = _ → (En w os).map _ = _ → (En w os).map _ = _ → (En w os).map _ = _
  generalize En w os = z
  cases z with
  | none => intro a; cases a
  | some s =>
    intro a b c
    have a' := Option.some.inj a
    have b' := Option.some.inj b
    have c' := Option.some.inj c
    show some (_, _, _) = _
    rw [show hk.val w = Y.val w from rfl, ← c', ← b']
    exact congrArg (fun x => some (x, _, _)) a'
theorem c1f (w : World) : C1 (w.withFollow "special-get-raises" false) := by
  intro os
  kernel_rfl
theorem c1t (w : World) : C1 (w.withFollow "special-get-raises" true) := by
  intro os
  kernel_rfl
theorem c2f (w : World) : C2 (w.withFollow "special-get-raises" false) := by
  intro os
  kernel_rfl
theorem c2t (w : World) : C2 (w.withFollow "special-get-raises" true) := by
  intro os
  kernel_rfl
theorem c3f (w : World) : C3 (w.withFollow "special-get-raises" false) := by
  intro os
  kernel_rfl
theorem c3t (w : World) : C3 (w.withFollow "special-get-raises" true) := by
  intro os
  kernel_rfl
theorem run (w : World) : HandSHeadRun.RunEq Rw Qv hk ob 2200 loose w := PySem.W.byRow2 "special-get-raises" (P := fun w => HandSHeadRun.RunEq Rw Qv hk ob 2200 loose w) (fun w => run_of (c1f w) (c2f w) (c3f w)) (fun w => run_of (c1t w) (c2t w) (c3t w)) w
end K51
end
section
/-! EvN: more lemmas for simp: pop at a place, extend, a list drawn empty. Own work. -/
set_option linter.all false
set_option autoImplicit false
set_option maxRecDepth 100000
namespace Ev
section
variable {T : Tab} {Φ : Phi}
theorem mu_ext {a e : Ex} {env : Env} {S S2 : Store} {p : Nat} {xs xs2 ys : List D} (ha : evE T Φ a env S = .ok (.loc p) S) (hl : S[p]? = some (.lst xs)) (he : evE T Φ e env S = .ok (.d (.lst ys)) S2) (h2 : S2[p]? = some (.lst xs2)) (hn : xs2.length + ys.length ≤ 4000000) :
    evE T Φ (.mu .extend a (.cons e .nil)) env S = .ok (.d .non) (S2.set p (.lst (xs2 ++ ys))) := by
  show ((evE T Φ a env S).bind fun x S1 => if isLs S1 x then (evEs T Φ (.cons e .nil) env S1).bind fun ws S2 => (R.of (dats ws) S2).bind fun ys S3 => muR .extend x ys S3 else .bad) = _
  have i : isLs S (.loc p) = true := by unfold isLs; simp only [hl]
  rw [ha, R.bind_ok, if_pos i]
  have m : muR .extend (.loc p) [.lst ys] S2 = R.ok (W.d D.non) (S2.set p (.lst (xs2 ++ ys))) := by
    unfold muR
    simp only [h2]
    show (match (if xs2.length + ys.length ≤ lim then some (D.non, xs2 ++ ys) else none) with
      | some (r, zs) => R.ok (W.d r) (S2.set p (.lst zs))
      | none => R.bad) = _
    rw [if_pos (by unfold lim; omega)]
  simp [he, m]
theorem mu_popA {a e : Ex} {env : Env} {S S2 : Store} {p k : Nat} {i : Int} {xs xs2 : List D} {y : D} (ha : evE T Φ a env S = .ok (.loc p) S) (hl : S[p]? = some (.lst xs)) (he : evE T Φ e env S = .ok (.d (.int i)) S2) (h2 : S2[p]? = some (.lst xs2)) (hn : xs2.length ≤ 4000000) (hk : ixN xs2.length i = some k) (hy : xs2[k]? = some y) :
    evE T Φ (.mu .popAt a (.cons e .nil)) env S = .ok (.d y) (S2.set p (.lst (xs2.eraseIdx k))) := by
  show ((evE T Φ a env S).bind fun x S1 => if isLs S1 x then (evEs T Φ (.cons e .nil) env S1).bind fun ws S2 => (R.of (dats ws) S2).bind fun ys S3 => muR .popAt x ys S3 else .bad) = _
  have h : isLs S (.loc p) = true := by unfold isLs; simp only [hl]
  rw [ha, R.bind_ok, if_pos h]
  have m : muR .popAt (.loc p) [.int i] S2 = R.ok (W.d y) (S2.set p (.lst (xs2.eraseIdx k))) := by
    unfold muR
    simp only [h2]
    show (match (if xs2.length ≤ lim then (ixN xs2.length i).bind fun k => (xs2[k]?).map fun y => (y, xs2.eraseIdx k) else none) with
      | some (r, zs) => R.ok (W.d r) (S2.set p (.lst zs))
      | none => R.bad) = _
    rw [if_pos (by unfold lim; omega), hk, Option.bind_some, hy]
    rfl
  simp [he, m]
/-- a list that is drawn empty, item by item -/
theorem mix_acc {f : D → Store → R (Option D)} {p l : Nat} {Pr : D → Prop} (hf : ∀ x Z zs acc, Z.length + 1 = p → PotAt l Z → 0 < zs.length → zs.length ≤ 100 → ∃ i Z', i < zs.length ∧ f x (Z ++ [.lst zs, .hid acc]) = .ok (some (zs.getD i .non)) (Z' ++ [.lst (zs.eraseIdx i), .hid acc]) ∧ Ch l Z Z') :
    ∀ {xs : List D} {Z : Store} {zs acc : List D}, Z.length + 1 = p → PotAt l Z → xs.length ≤ zs.length → zs.length ≤ 100 → (∀ z ∈ zs, Pr z) → acc.length + xs.length ≤ 4000000 →
    ∃ ys Z' zs', accR f p xs (Z ++ [.lst zs, .hid acc]) = .ok () (Z' ++ [.lst zs', .hid (acc ++ ys)]) ∧ Ch l Z Z' ∧ (∀ y ∈ ys, Pr y) ∧ ys.length = xs.length
  | [], Z, zs, acc, hz, hp, h1, h2, h3, h4 => ⟨[], Z, zs, by simp [accR], Ch.rfl hp, by simp, rfl⟩
  | x :: xs, Z, zs, acc, hz, hp, h1, h2, h3, h4 => by
    simp only [List.length_cons] at h1 h4
    obtain ⟨i, Z1, hi, e1, c1⟩ := hf x Z zs acc hz hp (by omega) h2
    have hy : Pr (zs.getD i .non) := by
      rw [List.getD_eq_getElem?_getD, List.getElem?_eq_getElem hi]
      exact h3 _ (List.getElem_mem _)
    have hl1 : Z1.length + 1 = p := by rw [c1.1]; exact hz
    have hel : (zs.eraseIdx i).length = zs.length - 1 := by rw [List.length_eraseIdx, if_pos hi]
    obtain ⟨ys, Z', zs', e2, c2, q1, q2⟩ := mix_acc hf (xs := xs) (Z := Z1) (zs := zs.eraseIdx i) (acc := acc ++ [zs.getD i .non]) hl1 c1.pot (by omega) (by omega) (fun z hz => h3 z (List.mem_of_mem_eraseIdx hz)) (by simp; omega)
    refine ⟨zs.getD i .non :: ys, Z', zs', ?_, c1.trans c2, fun y h => ?_, by simp [q2]⟩
    · rw [accR, e1, R.bind_ok]
      simp only
      have g : (Z1 ++ [SO.lst (zs.eraseIdx i), SO.hid acc])[p]? = some (.hid acc) := by
        rw [List.getElem?_append_right (by omega), show p - Z1.length = 1 by omega]; rfl
      have st : (Z1 ++ [SO.lst (zs.eraseIdx i), SO.hid acc]).set p (.hid (acc ++ [zs.getD i .non])) = Z1 ++ [SO.lst (zs.eraseIdx i), SO.hid (acc ++ [zs.getD i .non])] := by
        rw [List.set_append_right _ _ (by omega), show p - Z1.length = 1 by omega]; rfl
      rw [g]
      simp only
      rw [if_pos (by unfold lim; omega), st, e2]
      simp
    · rcases List.mem_cons.1 h with rfl | h
      · exact hy
      · exact q1 y h
theorem cmpr_mix {elt : Ex} {tg : Tn} {it : It} {own : List Nat} {env : Env} {S0 : Store} {l : Nat} {ps xs : List D} {Pr : D → Prop} (hi : evI T Φ it env (S0 ++ [.lst ps]) = .ok xs (S0 ++ [.lst ps])) (hx : xs.length ≤ ps.length) (hp : PotAt l S0) (hn : ps.length ≤ 100) (h : ∀ y ∈ ps, Pr y)
    (hs : ∀ x Z zs acc, Z.length = S0.length → PotAt l Z → 0 < zs.length → zs.length ≤ 100 → ∃ e i Z', bindN tg x (wipe own env) = some e ∧ i < zs.length ∧ evE T Φ elt e (Z ++ [.lst zs, .hid acc]) = .ok (.d (zs.getD i .non)) (Z' ++ [.lst (zs.eraseIdx i), .hid acc]) ∧ Ch l Z Z') :
    ∃ ys Z zs, evE T Φ (.cmpr true elt tg it .no own) env (S0 ++ [.lst ps]) = .ok (.loc (S0.length + 1)) (Z ++ [.lst zs, .lst ys]) ∧ Ch l S0 Z ∧ (∀ y ∈ ys, Pr y) ∧ ys.length = xs.length := by
  rw [q_cmpr, hi, R.bind_ok, List.append_assoc, show (S0 ++ [SO.lst ps]).length = S0.length + 1 by simp]
  suffices H : ∀ (F : D → Store → R (Option D)), (∀ x Z zs acc, Z.length + 1 = S0.length + 1 → PotAt l Z → 0 < zs.length → zs.length ≤ 100 → ∃ i Z', i < zs.length ∧ F x (Z ++ [.lst zs, .hid acc]) = .ok (some (zs.getD i .non)) (Z' ++ [.lst (zs.eraseIdx i), .hid acc]) ∧ Ch l Z Z') →
      ∃ ys Z zs, ((accR F (S0.length + 1) xs (S0 ++ ([SO.lst ps] ++ [SO.hid []]))).noex.bind fun _ S2 => accE true (S0.length + 1) S2) = .ok (.loc (S0.length + 1)) (Z ++ [.lst zs, .lst ys]) ∧ Ch l S0 Z ∧ (∀ y ∈ ys, Pr y) ∧ ys.length = xs.length by
    refine H _ fun x Z zs acc hz pz h0 h1 => ?_
    obtain ⟨e, i, Z', e1, e2, e3, e4⟩ := hs x Z zs acc (by omega) pz h0 h1
    exact ⟨i, Z', e2, by simp [e1, e3], e4⟩
  intro F hF
  obtain ⟨ys, Z, zs, e1, c, q1, q2⟩ := mix_acc hF (xs := xs) (Z := S0) (zs := ps) (acc := []) rfl hp hx hn h (by simp; omega)
  refine ⟨ys, Z, zs, ?_, c, q1, q2⟩
  have zl := c.1
  rw [show S0 ++ ([SO.lst ps] ++ [SO.hid []]) = S0 ++ [SO.lst ps, SO.hid []] from rfl, e1, R.noex_ok, R.bind_ok]
  unfold accE
  rw [List.getElem?_append_right (by omega), show S0.length + 1 - Z.length = 1 by omega]
  have tk : (Z ++ [SO.lst zs, SO.hid ys]).take (S0.length + 1) = Z ++ [SO.lst zs] := by
    rw [List.take_append, zl, show S0.length + 1 - S0.length = 1 by omega, List.take_of_length_le (by omega)]
    rfl
  simp [tk]
theorem at_map {α : Type} {g : α → D} {ws : List α} {k : Nat} (h : k < ws.length) : atI (ws.map g) (k : Int) = some (g ws[k]) := by
  unfold atI ixN
  rw [if_pos (by omega), if_pos (by rw [List.length_map]; omega), Option.bind_some, Int.toNat_natCast, List.getElem?_map, List.getElem?_eq_getElem h]
  rfl
theorem isN_any {d : D} {S : Store} : cmpW T Φ .isN (.d d) (.d .non) S = .ok (.d (.bl (isNon d))) S := by
  cases d <;> rfl
end
end Ev
end
section
/-! EvV: what has to hold behind a walk (wp). Printed by genv.py from EvV.core and EvK. Own work. -/
set_option linter.all false
set_option autoImplicit false
set_option maxRecDepth 100000
namespace Ev
/-! ### what has to hold behind -/
/-- what has to hold of a value and the store; a class, so that simp leaves it alone -/
class Cn (α : Type) where
  run : α → Store → Prop
class Cx where
  run : Nat → List D → Store → Prop
@[simp, simp ↓] theorem Cn.run_mk {α : Type} {q : α → Store → Prop} {a : α} {S : Store} : @Cn.run α ⟨q⟩ a S = q a S := rfl
@[simp, simp ↓] theorem Cx.run_mk {q : Nat → List D → Store → Prop} {c : Nat} {vs : List D} {S : Store} : @Cx.run ⟨q⟩ c vs S = q c vs S := rfl
abbrev noE : Cx := ⟨fun _ _ _ => False⟩
def wpD {α : Type} (Q : Cn α) (E : Cx) : R α → Prop
  | .ok a S => Q.run a S
  | .ex c vs S => E.run c vs S
  | .bad => False
structure wp {α : Type} (m : R α) [Q : Cn α] [E : Cx] : Prop where
  h : wpD Q E m
section
variable {α β : Type} {Q : Cn α} {E : Cx}
theorem wp_iff {m : R α} : @wp α m Q E = wpD Q E m := propext ⟨fun h => h.h, fun h => ⟨h⟩⟩
@[simp, simp ↓] theorem wp_ok {a : α} {S : Store} : @wp α (.ok a S) Q E = Q.run a S := wp_iff
@[simp, simp ↓] theorem wp_ex {c : Nat} {vs : List D} {S : Store} : @wp α (.ex c vs S) Q E = E.run c vs S := wp_iff
@[simp, simp ↓] theorem wp_bad : @wp α .bad Q E = False := wp_iff
@[simp, simp ↓] theorem wp_bind {m : R β} {f : β → Store → R α} : @wp α (m.bind f) Q E = @wp β m ⟨fun a S => @wp α (f a S) Q E⟩ E := by
  rw [wp_iff, wp_iff]
  cases m with
  | ok a S => exact wp_iff.symm
  | ex c vs S => rfl
  | bad => rfl
@[simp, simp ↓] theorem wp_noex {m : R α} : @wp α m.noex Q E = @wp α m Q noE := by rw [wp_iff, wp_iff]; cases m <;> rfl
/-- a choice, both of whose ways simp leaves alone -/
class Th where
  p : Prop
@[simp, simp ↓] theorem Th.p_mk {q : Prop} : @Th.p ⟨q⟩ = q := rfl
structure wpI (c : Prop) [a : Th] [b : Th] : Prop where
  h : (c → @Th.p a) ∧ (¬c → @Th.p b)
theorem wpI_pos {c : Prop} {a b : Th} (h : c) : @wpI c a b = @Th.p a := propext ⟨fun q => (@wpI.h c a b q).1 h, fun q => @wpI.mk c a b ⟨fun _ => q, fun n => (n h).elim⟩⟩
theorem wpI_neg {c : Prop} {a b : Th} (h : ¬c) : @wpI c a b = @Th.p b := propext ⟨fun q => (@wpI.h c a b q).2 h, fun q => @wpI.mk c a b ⟨fun n => (h n).elim, fun _ => q⟩⟩
@[simp] theorem wpI_true {a b : Th} : @wpI True a b = @Th.p a := wpI_pos trivial
@[simp] theorem wpI_false {a b : Th} : @wpI False a b = @Th.p b := wpI_neg id
@[simp] theorem wpI_p {c : Prop} {a b : Th} (h : c) : @wpI c a b = @Th.p a := wpI_pos h
@[simp] theorem wpI_n {c : Prop} {a b : Th} (h : ¬c) : @wpI c a b = @Th.p b := wpI_neg h
theorem wpI_split {c : Prop} {a b : Th} (h1 : c → @Th.p a) (h2 : ¬c → @Th.p b) : @wpI c a b := @wpI.mk c a b ⟨h1, h2⟩
@[simp, simp ↓] theorem wp_ite {c : Prop} [Decidable c] {a b : R α} : @wp α (if c then a else b) Q E = @wpI c ⟨@wp α a Q E⟩ ⟨@wp α b Q E⟩ := by
  by_cases h : c
  · rw [if_pos h, wpI_pos h]; rfl
  · rw [if_neg h, wpI_neg h]; rfl
theorem wp_mono {m : R α} {Q' : Cn α} {E' : Cx} (h : @wp α m Q' E') (hq : ∀ a S, Q'.run a S → Q.run a S) (he : ∀ c vs S, E'.run c vs S → E.run c vs S) : @wp α m Q E := by
  rw [wp_iff] at *
  cases m with
  | ok a S => exact hq a S h
  | ex c vs S => exact he c vs S h
  | bad => exact h.elim
theorem wp_if {c : Prop} [Decidable c] {a b : R α} (h1 : c → @wp α a Q E) (h2 : ¬c → @wp α b Q E) : @wp α (if c then a else b) Q E := by
  split
  · exact h1 ‹_›
  · exact h2 ‹_›
theorem wp_out {m : R α} (h : @wp α m Q noE) : ∃ a S, m = .ok a S ∧ Q.run a S := by
  rw [wp_iff] at h
  cases m with
  | ok a S => exact ⟨a, S, rfl, h⟩
  | ex c vs S => exact h.elim
  | bad => exact h.elim
/-- the same, whatever is wanted of the end -/
theorem wp_get {m : R α} {P : α → Store → Prop} (h : ∀ K : Cn α, (∀ a S, P a S → K.run a S) → @wp α m K noE) : ∃ a S, m = .ok a S ∧ P a S := wp_out (Q := ⟨P⟩) (h ⟨P⟩ fun _ _ h => h)
/-- an answer told -/
theorem wp_is {m : R α} {a : α} {S : Store} (h : ∀ K : Cn α, K.run a S → @wp α m K noE) : m = .ok a S := by
  obtain ⟨b, S', e, h1, h2⟩ := wp_get (P := fun b S' => b = a ∧ S' = S) fun K hK => h K (hK _ _ ⟨rfl, rfl⟩)
  rw [e, h1, h2]
theorem wp_eq {m : R α} {a : α} {S : Store} (h : m = .ok a S) (hq : Q.run a S) : @wp α m Q E := by rw [h, wp_ok]; exact hq
end
@[simp, simp ↓] theorem wp_bindX {α : Type} {m : R α} {env : Env} {f : α → Store → R Fl} {Q : Cn Fl} {E : Cx} : @wp Fl (R.bindX env m f) Q E = @wp α m ⟨fun a S => @wp Fl (f a S) Q E⟩ ⟨fun c vs S => Q.run (.ex c vs env) S⟩ := by
  rw [wp_iff, wp_iff]
  cases m with
  | ok a S => exact wp_iff.symm
  | ex c vs S => rfl
  | bad => rfl
def finK (n : Nat) (fl : Fl) (S : Store) : R W := match fl with
  | .nx _ => .ok (.d .non) (S.take n)
  | .rt (.d x) => .ok (.d x) (S.take n)
  | .rt (.loc m) => if m < n then .ok (.loc m) (S.take n) else (match S[m]? with
    | some o => .ok (.loc n) (S.take n ++ [o])
    | none => .bad)
  | .ex c vs _ => .ex c vs (S.take n)
  | _ => .bad
@[simp] theorem finK_nx {n : Nat} {e : Env} {S : Store} : finK n (.nx e) S = .ok (.d .non) (S.take n) := rfl
@[simp] theorem finK_rt {n : Nat} {x : D} {S : Store} : finK n (.rt (.d x)) S = .ok (.d x) (S.take n) := rfl
@[simp] theorem finK_rl {n m : Nat} {S : Store} : finK n (.rt (.loc m)) S = if m < n then .ok (.loc m) (S.take n) else (match S[m]? with
    | some o => .ok (.loc n) (S.take n ++ [o])
    | none => .bad) := rfl
@[simp] theorem finK_ex {n c : Nat} {vs : List D} {e : Env} {S : Store} : finK n (.ex c vs e) S = .ex c vs (S.take n) := rfl
@[simp, simp ↓] theorem wp_fin {n : Nat} {r : R Fl} {Q : Cn W} {E : Cx} : @wp W (fin n r) Q E = @wp Fl r ⟨fun fl S => @wp W (finK n fl S) Q E⟩ noE := by
  unfold fin
  rw [wp_bind, wp_noex]
  rfl
section
variable {T : Tab} {Φ : Phi}
/-- behind a statement -/
def wpK (T : Tab) (Φ : Phi) (n0 : Nat) (r : Sms) (fl : Fl) (S : Store) [Q : Cn Fl] [E : Cx] : Prop := @wp Fl (match fl with
    | .nx e => evSs T Φ n0 r e S
    | .rt w => .ok (.rt w) S
    | .bk e => .ok (.bk e) S
    | .ct e => .ok (.ct e) S
    | .ex c vs e => .ok (.ex c vs e) S) Q E
section
variable {n0 : Nat} {s : Sm} {r : Sms} {env : Env} {S : Store} {Q : Cn Fl} {E : Cx}
@[simp, simp ↓] theorem wpK_nx {e : Env} : @wpK T Φ n0 r (.nx e) S Q E = @wp Fl (evSs T Φ n0 r e S) Q E := rfl
@[simp, simp ↓] theorem wpK_rt {w : W} : @wpK T Φ n0 r (.rt w) S Q E = Q.run (.rt w) S := wp_iff
@[simp, simp ↓] theorem wpK_bk {e : Env} : @wpK T Φ n0 r (.bk e) S Q E = Q.run (.bk e) S := wp_iff
@[simp, simp ↓] theorem wpK_ct {e : Env} : @wpK T Φ n0 r (.ct e) S Q E = Q.run (.ct e) S := wp_iff
@[simp, simp ↓] theorem wpK_ex {c : Nat} {vs : List D} {e : Env} : @wpK T Φ n0 r (.ex c vs e) S Q E = Q.run (.ex c vs e) S := wp_iff
@[simp ↓] theorem v_cons : @wp Fl (evSs T Φ n0 (.cons s r) env S) Q E = @wp Fl (evS T Φ n0 s env S) ⟨fun fl S1 => @wpK T Φ n0 r fl S1 Q E⟩ E := by
  show @wp Fl ((evS T Φ n0 s env S).bind _) Q E = _
  rw [wp_bind]
  rfl
/-- a name's object is not changed any more -/
def frzR (T : Tab) (n0 i : Nat) (env : Env) (S : Store) : R Env := match slot env i with
    | some (.loc m) => if n0 ≤ m ∧ S.length = m + 1 ∧ (env.set i none).all (fun w => match w with | some (.loc k) => decide (k < m) | _ => true) then
        (match (S[m]?).bind (cold T) with
        | some x => .ok (env.set i (some (.d x))) (S.take m)
        | none => .bad) else .bad
    | _ => .bad
theorem frz_eq {i : Nat} : evSs T Φ n0 (.frz i r) env S = (frzR T n0 i env S).bind fun e S1 => evSs T Φ n0 r e S1 := by
  show (match slot env i with
    | some (.loc m) => if n0 ≤ m ∧ S.length = m + 1 ∧ (env.set i none).all (fun w => match w with | some (.loc k) => decide (k < m) | _ => true) then
        (match (S[m]?).bind (cold T) with
        | some x => evSs T Φ n0 r (env.set i (some (.d x))) (S.take m)
        | none => .bad) else .bad
    | _ => .bad) = _
  unfold frzR
  split
  · split
    · split <;> simp_all
    · rfl
  · rfl
@[simp ↓] theorem v_frz {i : Nat} : @wp Fl (evSs T Φ n0 (.frz i r) env S) Q E = @wp Env (frzR T n0 i env S) ⟨fun e S1 => @wp Fl (evSs T Φ n0 r e S1) Q E⟩ E := by rw [frz_eq, wp_bind]
def low (m : Nat) : Option W → Bool
  | some (.loc k) => decide (k < m)
  | _ => true
@[simp] theorem low_non {m : Nat} : low m none = true := rfl
@[simp] theorem low_d {m : Nat} {x : D} : low m (some (.d x)) = true := rfl
@[simp] theorem low_dm {m : Nat} {x : Option D} : low m (x.map W.d) = true := by cases x <;> rfl
@[simp] theorem low_loc {m k : Nat} : low m (some (.loc k)) = decide (k < m) := rfl
@[simp] theorem frzR_def {i : Nat} : frzR T n0 i env S = (match slot env i with
    | some (.loc m) => if n0 ≤ m ∧ S.length = m + 1 ∧ (env.set i none).all (low m) then
        (match (S[m]?).bind (cold T) with
        | some x => .ok (env.set i (some (.d x))) (S.take m)
        | none => .bad) else .bad
    | _ => .bad) := by
  have e : ∀ m, (fun w => match w with | some (W.loc k) => decide (k < m) | _ => true) = low m := fun m => by
    funext w
    unfold low
    rfl
  unfold frzR
  simp only [e]
end

@[simp ↓] theorem vq1_evE {i env S Q E} : @wp _ (evE T Φ (.var i) env S) Q E = @wp _ (R.of (slot env i) S) Q E := congrArg (fun m => @wp _ m Q E) (q1_evE T Φ)
@[simp ↓] theorem vq2_evE {d u1 S Q E} : @wp _ (evE T Φ (.con d) u1 S) Q E = @wp _ (.ok (.d d) S) Q E := congrArg (fun m => @wp _ m Q E) (q2_evE T Φ)
@[simp ↓] theorem vq3_evE {x u1 S Q E} : @wp _ (evE T Φ (.glo x) u1 S) Q E = @wp _ ((R.of (T.glob[x]?) S).bind fun d S => .ok (.d d) S) Q E := congrArg (fun m => @wp _ m Q E) (q3_evE T Φ)
@[simp ↓] theorem vq4_evE {o a b env S Q E} : @wp _ (evE T Φ (.bin o a b) env S) Q E = @wp _ ((evE T Φ a env S).bind fun x S1 => (evE T Φ b env S1).bind fun y S2 => match rd S2 x, rd S2 y with
    | some u, some v => (R.of (bin o u v) S2).bind fun z S => .ok (.d z) S
    | _, _ => .bad) Q E := congrArg (fun m => @wp _ m Q E) (q4_evE T Φ)
@[simp ↓] theorem vq5_evE {a env S Q E} : @wp _ (evE T Φ (.neg a) env S) Q E = @wp _ ((evE T Φ a env S).bind fun x S1 => (R.of ((rd S1 x).bind neg) S1).bind fun z S => .ok (.d z) S) Q E := congrArg (fun m => @wp _ m Q E) (q5_evE T Φ)
@[simp ↓] theorem vq6_evE {a env S Q E} : @wp _ (evE T Φ (.not a) env S) Q E = @wp _ ((evE T Φ a env S).bind fun x S1 => (asBl x S1).bind fun k S2 => .ok (.d (.bl (!k))) S2) Q E := congrArg (fun m => @wp _ m Q E) (q6_evE T Φ)
@[simp ↓] theorem vq7_evE {a b env S Q E} : @wp _ (evE T Φ (.and a b) env S) Q E = @wp _ ((evE T Φ a env S).bind fun x S1 => (asBl x S1).bind fun k S2 => if k then evE T Φ b env S2 else .ok (.d (.bl false)) S2) Q E := congrArg (fun m => @wp _ m Q E) (q7_evE T Φ)
@[simp ↓] theorem vq8_evE {a b env S Q E} : @wp _ (evE T Φ (.or a b) env S) Q E = @wp _ ((evE T Φ a env S).bind fun x S1 => (asBl x S1).bind fun k S2 => if k then .ok (.d (.bl true)) S2 else evE T Φ b env S2) Q E := congrArg (fun m => @wp _ m Q E) (q8_evE T Φ)
@[simp ↓] theorem vq9_evE {o a b env S Q E} : @wp _ (evE T Φ (.cmp o a b) env S) Q E = @wp _ ((evE T Φ a env S).bind fun x S1 => (evE T Φ b env S1).bind fun y S2 => cmpW T Φ o x y S2) Q E := congrArg (fun m => @wp _ m Q E) (q9_evE T Φ)
@[simp ↓] theorem vq10_evE {o p a b c env S Q E} : @wp _ (evE T Φ (.chn o p a b c) env S) Q E = @wp _ ((evE T Φ a env S).bind fun x S1 => (evE T Φ b env S1).bind fun y S2 => (cmpW T Φ o x y S2).bind fun r S3 => (asBl r S3).bind fun k S4 =>
      if k then (evE T Φ c env S4).bind fun z S5 => cmpW T Φ p y z S5 else .ok (.d (.bl false)) S4) Q E := congrArg (fun m => @wp _ m Q E) (q10_evE T Φ)
@[simp ↓] theorem vq11_evE {c a b env S Q E} : @wp _ (evE T Φ (.ite c a b) env S) Q E = @wp _ ((evT T Φ c (evE T Φ c) env S).bind fun k S1 => if k then evE T Φ a env S1 else evE T Φ b env S1) Q E := congrArg (fun m => @wp _ m Q E) (q11_evE T Φ)
@[simp ↓] theorem vq12_evE {m es env S Q E} : @wp _ (evE T Φ (.lst m es) env S) Q E = @wp _ ((evEs T Φ es env S).bind fun ws S1 => (R.of (dats ws) S1).bind fun xs S2 => fresh m xs S2) Q E := congrArg (fun m => @wp _ m Q E) (q12_evE T Φ)
@[simp ↓] theorem vq13_evE {es env S Q E} : @wp _ (evE T Φ (.tup es) env S) Q E = @wp _ ((evEs T Φ es env S).bind fun ws S1 => (R.of (dats ws) S1).bind fun xs S2 => .ok (.d (.tup xs)) S2) Q E := congrArg (fun m => @wp _ m Q E) (q13_evE T Φ)
@[simp ↓] theorem vq14_evE {a i env S Q E} : @wp _ (evE T Φ (.idx a i) env S) Q E = @wp _ ((evE T Φ a env S).bind fun x S1 => (evE T Φ i env S1).bind fun y S2 => match rd S2 x, rd S2 y with
    | some u, some v => (R.of (item u v) S2).bind fun z S => .ok (.d z) S
    | _, _ => .bad) Q E := congrArg (fun m => @wp _ m Q E) (q14_evE T Φ)
@[simp ↓] theorem vq15_evE {a lo hi env S Q E} : @wp _ (evE T Φ (.slc a lo hi) env S) Q E = @wp _ ((evE T Φ a env S).bind fun x S1 => (evO T Φ lo env S1).bind fun l S2 => (evO T Φ hi env S2).bind fun h S3 => (R.of ((rd S3 x).bind fun u => slice u l h) S3).bind fun z S => .ok (.d z) S) Q E := congrArg (fun m => @wp _ m Q E) (q15_evE T Φ)
@[simp ↓] theorem vq16_evE {a f env S Q E} : @wp _ (evE T Φ (.att a f) env S) Q E = @wp _ ((evE T Φ a env S).bind fun x S1 => attR T Φ x f S1) Q E := congrArg (fun m => @wp _ m Q E) (q16_evE T Φ)
@[simp ↓] theorem vq17_evE {g es ks sp env S Q E} : @wp _ (evE T Φ (.call g es ks sp) env S) Q E = @wp _ ((evEs T Φ es env S).bind fun ws S1 => (evEs T Φ ks env S1).bind fun zs S2 => (R.of (argsW T g sp ws zs) S2).bind fun fs S3 => Φ g fs S3) Q E := congrArg (fun m => @wp _ m Q E) (q17_evE T Φ)
@[simp ↓] theorem vq18_evE {c es ks sp env S Q E} : @wp _ (evE T Φ (.make c es ks sp) env S) Q E = @wp _ ((evEs T Φ es env S).bind fun ws S1 => (evEs T Φ ks env S1).bind fun zs S2 => match T.cls[c]? with
    | some k => (R.of (argsW T k.init sp (.loc S2.length :: ws) zs) S2).bind fun fs S3 => (Φ k.init fs (S3 ++ [.ins c []])).bind fun r S4 => match r with
      | .d .non => .ok (.loc S3.length) S4
      | _ => .bad
    | none => .bad) Q E := congrArg (fun m => @wp _ m Q E) (q18_evE T Φ)
@[simp ↓] theorem vq19_evE {a m es ks sp env S Q E} : @wp _ (evE T Φ (.meth a m es ks sp) env S) Q E = @wp _ ((evE T Φ a env S).bind fun x S1 => match methOf T S1 x m with
    | some g => (evEs T Φ es env S1).bind fun ws S2 => (evEs T Φ ks env S2).bind fun zs S3 => (R.of (argsW T g sp (x :: ws) zs) S3).bind fun fs S4 => Φ g fs S4
    | none => .bad) Q E := congrArg (fun m => @wp _ m Q E) (q19_evE T Φ)
@[simp ↓] theorem vq20_evE {b es env S Q E} : @wp _ (evE T Φ (.bi b es) env S) Q E = @wp _ ((evEs T Φ es env S).bind fun ws S1 => biW T Φ b ws S1) Q E := congrArg (fun m => @wp _ m Q E) (q20_evE T Φ)
@[simp ↓] theorem vq21_evE {m a es env S Q E} : @wp _ (evE T Φ (.bm m a es) env S) Q E = @wp _ ((evE T Φ a env S).bind fun x S1 => if bmK m x then (evEs T Φ es env S1).bind fun ws S2 => match rd S2 x, rds S2 ws with
    | some u, some vs => (R.of (bm m u vs) S2).bind fun z S => .ok (.d z) S
    | _, _ => .bad else .bad) Q E := congrArg (fun m => @wp _ m Q E) (q21_evE T Φ)
@[simp ↓] theorem vq22_evE {m a es env S Q E} : @wp _ (evE T Φ (.mu m a es) env S) Q E = @wp _ ((evE T Φ a env S).bind fun x S1 => if isLs S1 x then (evEs T Φ es env S1).bind fun ws S2 => (R.of (dats ws) S2).bind fun ys S3 => muR m x ys S3 else .bad) Q E := congrArg (fun m => @wp _ m Q E) (q22_evE T Φ)
@[simp ↓] theorem vq23_evE {a ks env S Q E} : @wp _ (evE T Φ (.isi a ks) env S) Q E = @wp _ ((evE T Φ a env S).bind fun x S1 => match tagW T S1 x with
    | some g => .ok (.d (.bl (ks.any (isK T g)))) S1
    | none => .bad) Q E := congrArg (fun m => @wp _ m Q E) (q23_evE T Φ)
@[simp ↓] theorem vq24_evE {m it env S Q E} : @wp _ (evE T Φ (.lof m it) env S) Q E = @wp _ ((evI T Φ it env S).bind fun xs S1 => if xs.length ≤ lim then fresh m xs S1 else .bad) Q E := congrArg (fun m => @wp _ m Q E) (q24_evE T Φ)
@[simp ↓] theorem vq25_evE {a env S Q E} : @wp _ (evE T Φ (.thaw a) env S) Q E = @wp _ ((evE T Φ a env S).bind fun w S1 => (R.of (seqD S1 w) S1).bind fun xs S2 => fresh true xs S2) Q E := congrArg (fun m => @wp _ m Q E) (q25_evE T Φ)
@[simp ↓] theorem vq26_evE {a env S Q E} : @wp _ (evE T Φ (.rev a) env S) Q E = @wp _ ((evE T Φ a env S).bind fun w S1 => match rd S1 w with
    | some (.lst xs) => .ok (.d (.lst xs.reverse)) S1
    | some (.str z) => .ok (.d (.str z.reverse)) S1
    | _ => .bad) Q E := congrArg (fun m => @wp _ m Q E) (q26_evE T Φ)
@[simp ↓] theorem vq27_evE {a b env S Q E} : @wp _ (evE T Φ (.addL a b) env S) Q E = @wp _ ((evE T Φ a env S).bind fun x S1 => (evE T Φ b env S1).bind fun y S2 => match rd S2 x, rd S2 y with
    | some (.lst xs), some (.lst ys) => if xs.length + ys.length ≤ lim then fresh true (xs ++ ys) S2 else .bad
    | _, _ => .bad) Q E := congrArg (fun m => @wp _ m Q E) (q27_evE T Φ)
@[simp ↓] theorem vq28_evE {m ks vs env S Q E} : @wp _ (evE T Φ (.dsp m ks vs) env S) Q E = @wp _ ((evEs T Φ vs env (S ++ [.dic [] []])).bind fun ws S1 => (R.of (dats ws) S1).bind fun xs S2 => accD m S.length ks xs S2) Q E := congrArg (fun m => @wp _ m Q E) (q28_evE T Φ)
@[simp ↓] theorem vq29_evE {a env S Q E} : @wp _ (evE T Φ (.dcp a) env S) Q E = @wp _ ((evE T Φ a env S).bind fun w S1 => match w with
    | .loc k => (match S1[k]? with
      | some (.dic ks vs) => if ks.length = vs.length ∧ ks.length ≤ lim ∧ nodupK ks = true then .ok (.loc S1.length) (S1 ++ [.dic ks vs]) else .bad
      | _ => .bad)
    | _ => .bad) Q E := congrArg (fun m => @wp _ m Q E) (q29_evE T Φ)
@[simp ↓] theorem vq_cmpr {m elt tg it cs own env S Q E} : @wp _ (evE T Φ (.cmpr m elt tg it cs own) env S) Q E = @wp _ ((evI T Φ it env S).bind fun xs S1 => (accR (fun x S => match bindN tg x (wipe own env) with
      | none => .bad
      | some e => (evC T Φ cs e S).bind fun k S1 => if k then (evE T Φ elt e S1).bind fun w S2 => match w with
        | .d y => .ok (some y) S2
        | .loc _ => .bad else .ok none S1) S1.length xs (S1 ++ [.hid []])).noex.bind fun _ S2 => accE m S1.length S2) Q E := congrArg (fun m => @wp _ m Q E) (q_cmpr T Φ)
@[simp ↓] theorem vq31_evE {ps env S Q E} : @wp _ (evE T Φ (.fst ps) env S) Q E = @wp _ ((evJ T Φ ps [] env S).bind fun s S1 => .ok (.d (.str s)) S1) Q E := congrArg (fun m => @wp _ m Q E) (q31_evE T Φ)
@[simp ↓] theorem vq32_evE {a env S Q E} : @wp _ (evE T Φ (.fmt a) env S) Q E = @wp _ ((evE T Φ a env S).bind fun x S1 => (R.of ((rd S1 x).bind fmtD) S1).bind fun z S => .ok (.d z) S) Q E := congrArg (fun m => @wp _ m Q E) (q32_evE T Φ)
@[simp ↓] theorem vq33_evE {a env S Q E} : @wp _ (evE T Φ (.fmr a) env S) Q E = @wp _ ((evE T Φ a env S).bind fun x S1 => (R.of ((rd S1 x).bind fmrD) S1).bind fun z S => .ok (.d z) S) Q E := congrArg (fun m => @wp _ m Q E) (q33_evE T Φ)
@[simp ↓] theorem vq34_evE {a env S Q E} : @wp _ (evE T Φ (.frz a) env S) Q E = @wp _ ((evE T Φ a env S).bind fun x S1 => coldAt T S.length x S1) Q E := congrArg (fun m => @wp _ m Q E) (q34_evE T Φ)
@[simp ↓] theorem vq35_evE {a m env S Q E} : @wp _ (evE T Φ (.lenO a m) env S) Q E = @wp _ ((evE T Φ a env S).bind fun x S1 => match specM T S1 x m with
    | some g => (Φ g [x] S1).noex.bind asLen
    | none => .bad) Q E := congrArg (fun m => @wp _ m Q E) (q35_evE T Φ)
@[simp ↓] theorem vq36_evE {a m e env S Q E} : @wp _ (evE T Φ (.callO a m e) env S) Q E = @wp _ ((evE T Φ a env S).bind fun x S1 => match x with
    | .d (.ins cc xs) => (match specM T S1 (.d (.ins cc xs)) m with
      | some g => (evE T Φ e env S1).bind fun y S2 => Φ g [.d (.ins cc xs), y] S2
      | none => .bad)
    | _ => .bad) Q E := congrArg (fun m => @wp _ m Q E) (q36_evE T Φ)
@[simp ↓] theorem vq_cmprL {m elt tg a cs own env S Q E} : @wp _ (evE T Φ (.cmprL m elt tg a cs own) env S) Q E = @wp _ ((evE T Φ a env S).bind fun w S1 => match w with
    | .loc k => (match S1[k]? with
      | some (.lst xs) => (accL (fun x S => match bindN tg x (wipe own env) with
        | none => .bad
        | some e => (evC T Φ cs e S).bind fun b S1 => if b then (evE T Φ elt e S1).bind fun w S2 => match w with
          | .d y => .ok (some y) S2
          | .loc _ => .bad else .ok none S1) S1.length k xs.length 0 (S1 ++ [.hid []])).noex.bind fun _ S2 => accE m S1.length S2
      | _ => .bad)
    | _ => .bad) Q E := congrArg (fun m => @wp _ m Q E) (q_cmprL T Φ)
@[simp ↓] theorem vq38_evT {a u1 env S Q E} : @wp _ (evT T Φ (.not a) u1 env S) Q E = @wp _ ((evT T Φ a (evE T Φ a) env S).bind fun k S1 => .ok (!k) S1) Q E := congrArg (fun m => @wp _ m Q E) (q38_evT T Φ)
@[simp ↓] theorem vq39_evT {a b u1 env S Q E} : @wp _ (evT T Φ (.and a b) u1 env S) Q E = @wp _ ((evT T Φ a (evE T Φ a) env S).bind fun k S1 => if k then evT T Φ b (evE T Φ b) env S1 else .ok false S1) Q E := congrArg (fun m => @wp _ m Q E) (q39_evT T Φ)
@[simp ↓] theorem vq40_evT {a b u1 env S Q E} : @wp _ (evT T Φ (.or a b) u1 env S) Q E = @wp _ ((evT T Φ a (evE T Φ a) env S).bind fun k S1 => if k then .ok true S1 else evT T Φ b (evE T Φ b) env S1) Q E := congrArg (fun m => @wp _ m Q E) (q40_evT T Φ)
@[simp ↓] theorem vq41_evT {c a b u1 env S Q E} : @wp _ (evT T Φ (.ite c a b) u1 env S) Q E = @wp _ ((evT T Φ c (evE T Φ c) env S).bind fun k S1 => if k then evT T Φ a (evE T Φ a) env S1 else evT T Φ b (evE T Φ b) env S1) Q E := congrArg (fun m => @wp _ m Q E) (q41_evT T Φ)
@[simp ↓] theorem vq42_evEs {u1 S Q E} : @wp _ (evEs T Φ (.nil) u1 S) Q E = @wp _ (.ok [] S) Q E := congrArg (fun m => @wp _ m Q E) (q42_evEs T Φ)
@[simp ↓] theorem vq43_evEs {e es env S Q E} : @wp _ (evEs T Φ (.cons e es) env S) Q E = @wp _ ((evE T Φ e env S).bind fun w S1 => (evEs T Φ es env S1).bind fun ws S2 => .ok (w :: ws) S2) Q E := congrArg (fun m => @wp _ m Q E) (q43_evEs T Φ)
@[simp ↓] theorem vq44_evJ {acc u2 S Q E} : @wp _ (evJ T Φ (.nil) acc u2 S) Q E = @wp _ (.ok acc S) Q E := congrArg (fun m => @wp _ m Q E) (q44_evJ T Φ)
@[simp ↓] theorem vq45_evJ {e es acc env S Q E} : @wp _ (evJ T Φ (.cons e es) acc env S) Q E = @wp _ ((evE T Φ e env S).bind fun w S1 => match w with
    | .d (.str s) => if acc.length + s.length ≤ lim then evJ T Φ es (acc ++ s) env S1 else .bad
    | _ => .bad) Q E := congrArg (fun m => @wp _ m Q E) (q45_evJ T Φ)
@[simp ↓] theorem vq46_evO {u1 S Q E} : @wp _ (evO T Φ (.no) u1 S) Q E = @wp _ (.ok none S) Q E := congrArg (fun m => @wp _ m Q E) (q46_evO T Φ)
@[simp ↓] theorem vq47_evO {e env S Q E} : @wp _ (evO T Φ (.so e) env S) Q E = @wp _ ((evE T Φ e env S).bind fun w S1 => match rd S1 w with
    | some (.int i) => .ok (some i) S1
    | _ => .bad) Q E := congrArg (fun m => @wp _ m Q E) (q47_evO T Φ)
@[simp ↓] theorem vq48_evC {u1 S Q E} : @wp _ (evC T Φ (.no) u1 S) Q E = @wp _ (.ok true S) Q E := congrArg (fun m => @wp _ m Q E) (q48_evC T Φ)
@[simp ↓] theorem vq49_evC {e env S Q E} : @wp _ (evC T Φ (.so e) env S) Q E = @wp _ (evT T Φ e (evE T Φ e) env S) Q E := congrArg (fun m => @wp _ m Q E) (q49_evC T Φ)
@[simp ↓] theorem vq50_evI {a env S Q E} : @wp _ (evI T Φ (.seq a) env S) Q E = @wp _ ((evE T Φ a env S).bind fun w S1 => match w with
    | .d x => R.of (items x) S1
    | _ => .bad) Q E := congrArg (fun m => @wp _ m Q E) (q50_evI T Φ)
@[simp ↓] theorem vq51_evI {a env S Q E} : @wp _ (evI T Φ (.rng1 a) env S) Q E = @wp _ ((evE T Φ a env S).bind fun w S1 => match w with
    | .d (.int j) => if rngOk j then .ok (intRange 0 j) S1 else .bad
    | _ => .bad) Q E := congrArg (fun m => @wp _ m Q E) (q51_evI T Φ)
@[simp ↓] theorem vq52_evI {a b env S Q E} : @wp _ (evI T Φ (.rng2 a b) env S) Q E = @wp _ ((evE T Φ a env S).bind fun v S1 => (evE T Φ b env S1).bind fun w S2 => match v, w with
    | .d (.int i), .d (.int j) => if rngOk i && rngOk j then .ok (intRange i j) S2 else .bad
    | _, _ => .bad) Q E := congrArg (fun m => @wp _ m Q E) (q52_evI T Φ)
@[simp ↓] theorem vq53_evI {a b env S Q E} : @wp _ (evI T Φ (.rngB a b) env S) Q E = @wp _ ((evE T Φ a env S).bind fun v S1 => (evE T Φ b env S1).bind fun w S2 => match v, w with
    | .d (.int i), .d (.int j) => .ok (intRange i j) S2
    | _, _ => .bad) Q E := congrArg (fun m => @wp _ m Q E) (q53_evI T Φ)
@[simp ↓] theorem vq54_evI {a env S Q E} : @wp _ (evI T Φ (.enu a) env S) Q E = @wp _ ((evE T Φ a env S).bind fun w S1 => match w with
    | .d (.lst xs) => .ok (enumD xs) S1
    | .d (.tup xs) => .ok (enumD xs) S1
    | _ => .bad) Q E := congrArg (fun m => @wp _ m Q E) (q54_evI T Φ)
@[simp ↓] theorem vq55_evI {a b env S Q E} : @wp _ (evI T Φ (.zip a b) env S) Q E = @wp _ ((evE T Φ a env S).bind fun v S1 => (evE T Φ b env S1).bind fun w S2 => match v, w with
    | .d (.lst xs), .d (.lst ys) => .ok (zipD xs ys) S2
    | .d (.tup xs), .d (.tup ys) => .ok (zipD xs ys) S2
    | _, _ => .bad) Q E := congrArg (fun m => @wp _ m Q E) (q55_evI T Φ)
@[simp ↓] theorem vq56_evI {a b e env S Q E} : @wp _ (evI T Φ (.rng3 a b e) env S) Q E = @wp _ ((evE T Φ a env S).bind fun u S1 => (evE T Φ b env S1).bind fun v S2 => (evE T Φ e env S2).bind fun w S3 => match u, v, w with
    | .d (.int i), .d (.int j), .d (.int c) => if rngOk i && rngOk j && (decide (0 < c) && decide (c < 1000)) then .ok (stepRange i j c) S3 else .bad
    | _, _, _ => .bad) Q E := congrArg (fun m => @wp _ m Q E) (q56_evI T Φ)
@[simp ↓] theorem vq57_evTg {i w env S Q E} : @wp _ (evTg T Φ (.name i) w env S) Q E = @wp _ (if i < env.length then .ok (env.set i (some w)) S else .bad) Q E := congrArg (fun m => @wp _ m Q E) (q57_evTg T Φ)
@[simp ↓] theorem vq58_evTg {a i w env S Q E} : @wp _ (evTg T Φ (.sub a i) w env S) Q E = @wp _ ((evE T Φ a env S).bind fun o S1 => (evE T Φ i env S1).bind fun k S2 => match o, k, w with
    | .loc n, .d k, .d x => (match S2[n]? with
      | some (.lst xs) => (match k with
        | .int j => (match ixN xs.length j with
          | some q => .ok env (S2.set n (.lst (xs.set q x)))
          | none => .bad)
        | _ => .bad)
      | some (.dic ks vs) => if isKey k = true ∧ ks.length < lim then .ok env (S2.set n (.dic (putD ks vs k x).1 (putD ks vs k x).2)) else .bad
      | _ => .bad)
    | _, _, _ => .bad) Q E := congrArg (fun m => @wp _ m Q E) (q58_evTg T Φ)
@[simp ↓] theorem vq59_evTgs {env S Q E} : @wp _ (evTgs T Φ [] [] env S) Q E = @wp _ (.ok env S) Q E := congrArg (fun m => @wp _ m Q E) (q59_evTgs T Φ)
@[simp ↓] theorem vq60_evTgs {t ts x xs env S Q E} : @wp _ (evTgs T Φ (t :: ts) (x :: xs) env S) Q E = @wp _ ((evTg T Φ t (.d x) env S).bind fun e S1 => evTgs T Φ ts xs e S1) Q E := congrArg (fun m => @wp _ m Q E) (q60_evTgs T Φ)
@[simp ↓] theorem vq61_evS (n0 : Nat) {tg e env S Q E} : @wp _ (evS T Φ n0 (.asg tg e) env S) Q E = @wp _ (((evE T Φ e env S).bind fun w S1 => evTg T Φ tg w env S1).bindX env fun e S2 => .ok (.nx e) S2) Q E := congrArg (fun m => @wp _ m Q E) (q61_evS T Φ n0)
@[simp ↓] theorem vq62_evS (n0 : Nat) {ts e env S Q E} : @wp _ (evS T Φ n0 (.unp ts e) env S) Q E = @wp _ ((evE T Φ e env S).bindX env fun w S1 => match w with
    | .d (.tup xs) => (evTgs T Φ ts xs env S1).noex.bindX env fun e S2 => .ok (.nx e) S2
    | .d (.lst xs) => (evTgs T Φ ts xs env S1).noex.bindX env fun e S2 => .ok (.nx e) S2
    | _ => .bad) Q E := congrArg (fun m => @wp _ m Q E) (q62_evS T Φ n0)
@[simp ↓] theorem vq63_evS (n0 : Nat) {ts e env S Q E} : @wp _ (evS T Φ n0 (.unn ts e) env S) Q E = @wp _ ((evE T Φ e env S).bindX env fun w S1 => match w with
    | .d x => (R.of (bindN (.tup ts) x env) S1).bindX env fun e S2 => .ok (.nx e) S2
    | _ => .bad) Q E := congrArg (fun m => @wp _ m Q E) (q63_evS T Φ n0)
@[simp ↓] theorem vq64_evS (n0 : Nat) {is es env S Q E} : @wp _ (evS T Φ n0 (.par is es) env S) Q E = @wp _ (((evEs T Φ es env S).bind fun ws S1 => R.of (setPar is ws env) S1).bindX env fun e S2 => .ok (.nx e) S2) Q E := congrArg (fun m => @wp _ m Q E) (q64_evS T Φ n0)
@[simp ↓] theorem vq65_evS (n0 : Nat) {is es env S Q E} : @wp _ (evS T Φ n0 (.pat is es) env S) Q E = @wp _ (((evEs T Φ es env S).bind fun ws S1 => R.of (setPar is ws env) S1).bindX env fun e S2 => .ok (.nx e) S2) Q E := congrArg (fun m => @wp _ m Q E) (q65_evS T Φ n0)
@[simp ↓] theorem vq66_evS (n0 : Nat) {a f e env S Q E} : @wp _ (evS T Φ n0 (.satt a f e) env S) Q E = @wp _ (((evE T Φ e env S).bind fun w S1 => (evE T Φ a env S1).bind fun o S2 => match o, w with
    | .loc n, .d x => (match S2[n]? with
      | some (.ins c fs) => if sattOk T c f fs then .ok env (S2.set n (.ins c (setF fs f x))) else .bad
      | _ => .bad)
    | _, _ => .bad).bindX env fun e S2 => .ok (.nx e) S2) Q E := congrArg (fun m => @wp _ m Q E) (q66_evS T Φ n0)
@[simp ↓] theorem vq67_evS (n0 : Nat) {i o e env S Q E} : @wp _ (evS T Φ n0 (.aug i o e) env S) Q E = @wp _ ((match slot env i with
    | none => .bad
    | some x => (evE T Φ e env S).bind fun y S1 => match x, y with
      | .d u, .d v => (R.of (binI o u v) S1).bind fun z S2 => .ok (env.set i (some (.d z))) S2
      | _, _ => .bad : R Env).bindX env fun e S2 => .ok (.nx e) S2) Q E := congrArg (fun m => @wp _ m Q E) (q67_evS T Φ n0)
@[simp ↓] theorem vq68_evS (n0 : Nat) {e env S Q E} : @wp _ (evS T Φ n0 (.expr e) env S) Q E = @wp _ ((evE T Φ e env S).bindX env fun _ S1 => .ok (.nx env) S1) Q E := congrArg (fun m => @wp _ m Q E) (q68_evS T Φ n0)
@[simp ↓] theorem vq69_evS (n0 : Nat) {c a b env S Q E} : @wp _ (evS T Φ n0 (.ite c a b) env S) Q E = @wp _ ((evT T Φ c (evE T Φ c) env S).bindX env fun k S1 => if k then evSs T Φ n0 a env S1 else evSs T Φ n0 b env S1) Q E := congrArg (fun m => @wp _ m Q E) (q69_evS T Φ n0)
@[simp ↓] theorem vq_loop (n0 : Nat) {tg it body env S Q E} : @wp _ (evS T Φ n0 (.loop tg it body) env S) Q E = @wp _ ((evI T Φ it env S).bindX env fun xs S1 => loopR (fun x env S => match bindN tg x env with
      | some e => evSs T Φ n0 body e S
      | none => .bad) xs env S1) Q E := congrArg (fun m => @wp _ m Q E) (q_loop T Φ n0)
@[simp ↓] theorem vq71_evS (n0 : Nat) {en tg a body env S Q E} : @wp _ (evS T Φ n0 (.loopL en tg a body) env S) Q E = @wp _ ((evE T Φ a env S).bindX env fun w S1 => match w with
    | .d (.lst xs) => loopR (fun x env S => match bindN tg x env with
      | some e => evSs T Φ n0 body e S
      | none => .bad) (if en then enumD xs else xs) env S1
    | .d (.tup xs) => loopR (fun x env S => match bindN tg x env with
      | some e => evSs T Φ n0 body e S
      | none => .bad) (if en then enumD xs else xs) env S1
    | .loc k => if k < n0 then (match S1[k]? with
      | some (.lst xs) => liveR en (fun x env S => match bindN tg x env with
        | some e => evSs T Φ n0 body e S
        | none => .bad) k xs.length 0 env S1
      | _ => .bad) else .bad
    | _ => .bad) Q E := congrArg (fun m => @wp _ m Q E) (q71_evS T Φ n0)
@[simp ↓] theorem vq72_evS (n0 : Nat) {c body env S Q E} : @wp _ (evS T Φ n0 (.whil c body) env S) Q E = @wp _ (whileR (fun env S => evT T Φ c (evE T Φ c) env S) (fun env S => evSs T Φ n0 body env S) env S) Q E := congrArg (fun m => @wp _ m Q E) (q72_evS T Φ n0)
@[simp ↓] theorem vq73_evS (n0 : Nat) {e env S Q E} : @wp _ (evS T Φ n0 (.ret e) env S) Q E = @wp _ ((evE T Φ e env S).bindX env fun w S1 => .ok (.rt w) S1) Q E := congrArg (fun m => @wp _ m Q E) (q73_evS T Φ n0)
@[simp ↓] theorem vq74_evS (n0 : Nat) {u1 S Q E} : @wp _ (evS T Φ n0 (.retN) u1 S) Q E = @wp _ (.ok (.rt (.d .non)) S) Q E := congrArg (fun m => @wp _ m Q E) (q74_evS T Φ n0)
@[simp ↓] theorem vq75_evS (n0 : Nat) {v0_1 v0_2 u1 u2 Q E} : @wp _ (evS T Φ n0 (.rais v0_1 v0_2) u1 u2) Q E = @wp _ (.bad) Q E := congrArg (fun m => @wp _ m Q E) (q75_evS T Φ n0)
@[simp ↓] theorem vq76_evS (n0 : Nat) {env S Q E} : @wp _ (evS T Φ n0 (.pass) env S) Q E = @wp _ (.ok (.nx env) S) Q E := congrArg (fun m => @wp _ m Q E) (q76_evS T Φ n0)
@[simp ↓] theorem vq77_evS (n0 : Nat) {env S Q E} : @wp _ (evS T Φ n0 (.brk) env S) Q E = @wp _ (.ok (.bk env) S) Q E := congrArg (fun m => @wp _ m Q E) (q77_evS T Φ n0)
@[simp ↓] theorem vq78_evS (n0 : Nat) {env S Q E} : @wp _ (evS T Φ n0 (.cnt) env S) Q E = @wp _ (.ok (.ct env) S) Q E := congrArg (fun m => @wp _ m Q E) (q78_evS T Φ n0)
@[simp ↓] theorem vq79_evSs (n0 : Nat) {env S Q E} : @wp _ (evSs T Φ n0 (.nil) env S) Q E = @wp _ (.ok (.nx env) S) Q E := congrArg (fun m => @wp _ m Q E) (q79_evSs T Φ n0)
@[simp ↓] theorem vqt_var {i wh env S Q E} : @wp _ (evT T Φ (.var i) wh env S) Q E = @wp _ ((wh env S).bind fun x S1 => R.of ((rd S1 x).bind truth) S1) Q E := congrArg (fun m => @wp _ m Q E) (qt_var T Φ)
@[simp ↓] theorem vqt_con {d wh env S Q E} : @wp _ (evT T Φ (.con d) wh env S) Q E = @wp _ ((wh env S).bind fun x S1 => R.of ((rd S1 x).bind truth) S1) Q E := congrArg (fun m => @wp _ m Q E) (qt_con T Φ)
@[simp ↓] theorem vqt_glo {x wh env S Q E} : @wp _ (evT T Φ (.glo x) wh env S) Q E = @wp _ ((wh env S).bind fun x S1 => R.of ((rd S1 x).bind truth) S1) Q E := congrArg (fun m => @wp _ m Q E) (qt_glo T Φ)
@[simp ↓] theorem vqt_bin {o a b wh env S Q E} : @wp _ (evT T Φ (.bin o a b) wh env S) Q E = @wp _ ((wh env S).bind fun x S1 => R.of ((rd S1 x).bind truth) S1) Q E := congrArg (fun m => @wp _ m Q E) (qt_bin T Φ)
@[simp ↓] theorem vqt_neg {a wh env S Q E} : @wp _ (evT T Φ (.neg a) wh env S) Q E = @wp _ ((wh env S).bind fun x S1 => R.of ((rd S1 x).bind truth) S1) Q E := congrArg (fun m => @wp _ m Q E) (qt_neg T Φ)
@[simp ↓] theorem vqt_cmp {o a b wh env S Q E} : @wp _ (evT T Φ (.cmp o a b) wh env S) Q E = @wp _ ((wh env S).bind fun x S1 => R.of ((rd S1 x).bind truth) S1) Q E := congrArg (fun m => @wp _ m Q E) (qt_cmp T Φ)
@[simp ↓] theorem vqt_chn {o p a b c wh env S Q E} : @wp _ (evT T Φ (.chn o p a b c) wh env S) Q E = @wp _ ((wh env S).bind fun x S1 => R.of ((rd S1 x).bind truth) S1) Q E := congrArg (fun m => @wp _ m Q E) (qt_chn T Φ)
@[simp ↓] theorem vqt_lst {m es wh env S Q E} : @wp _ (evT T Φ (.lst m es) wh env S) Q E = @wp _ ((wh env S).bind fun x S1 => R.of ((rd S1 x).bind truth) S1) Q E := congrArg (fun m => @wp _ m Q E) (qt_lst T Φ)
@[simp ↓] theorem vqt_tup {es wh env S Q E} : @wp _ (evT T Φ (.tup es) wh env S) Q E = @wp _ ((wh env S).bind fun x S1 => R.of ((rd S1 x).bind truth) S1) Q E := congrArg (fun m => @wp _ m Q E) (qt_tup T Φ)
@[simp ↓] theorem vqt_idx {a i wh env S Q E} : @wp _ (evT T Φ (.idx a i) wh env S) Q E = @wp _ ((wh env S).bind fun x S1 => R.of ((rd S1 x).bind truth) S1) Q E := congrArg (fun m => @wp _ m Q E) (qt_idx T Φ)
@[simp ↓] theorem vqt_slc {a lo hi wh env S Q E} : @wp _ (evT T Φ (.slc a lo hi) wh env S) Q E = @wp _ ((wh env S).bind fun x S1 => R.of ((rd S1 x).bind truth) S1) Q E := congrArg (fun m => @wp _ m Q E) (qt_slc T Φ)
@[simp ↓] theorem vqt_att {a f wh env S Q E} : @wp _ (evT T Φ (.att a f) wh env S) Q E = @wp _ ((wh env S).bind fun x S1 => R.of ((rd S1 x).bind truth) S1) Q E := congrArg (fun m => @wp _ m Q E) (qt_att T Φ)
@[simp ↓] theorem vqt_call {g es ks sp wh env S Q E} : @wp _ (evT T Φ (.call g es ks sp) wh env S) Q E = @wp _ ((wh env S).bind fun x S1 => R.of ((rd S1 x).bind truth) S1) Q E := congrArg (fun m => @wp _ m Q E) (qt_call T Φ)
@[simp ↓] theorem vqt_make {g es ks sp wh env S Q E} : @wp _ (evT T Φ (.make g es ks sp) wh env S) Q E = @wp _ ((wh env S).bind fun x S1 => R.of ((rd S1 x).bind truth) S1) Q E := congrArg (fun m => @wp _ m Q E) (qt_make T Φ)
@[simp ↓] theorem vqt_meth {a m es ks sp wh env S Q E} : @wp _ (evT T Φ (.meth a m es ks sp) wh env S) Q E = @wp _ ((wh env S).bind fun x S1 => R.of ((rd S1 x).bind truth) S1) Q E := congrArg (fun m => @wp _ m Q E) (qt_meth T Φ)
@[simp ↓] theorem vqt_bi {b es wh env S Q E} : @wp _ (evT T Φ (.bi b es) wh env S) Q E = @wp _ ((wh env S).bind fun x S1 => R.of ((rd S1 x).bind truth) S1) Q E := congrArg (fun m => @wp _ m Q E) (qt_bi T Φ)
@[simp ↓] theorem vqt_bm {m a es wh env S Q E} : @wp _ (evT T Φ (.bm m a es) wh env S) Q E = @wp _ ((wh env S).bind fun x S1 => R.of ((rd S1 x).bind truth) S1) Q E := congrArg (fun m => @wp _ m Q E) (qt_bm T Φ)
@[simp ↓] theorem vqt_mu {m a es wh env S Q E} : @wp _ (evT T Φ (.mu m a es) wh env S) Q E = @wp _ ((wh env S).bind fun x S1 => R.of ((rd S1 x).bind truth) S1) Q E := congrArg (fun m => @wp _ m Q E) (qt_mu T Φ)
@[simp ↓] theorem vqt_isi {a ks wh env S Q E} : @wp _ (evT T Φ (.isi a ks) wh env S) Q E = @wp _ ((wh env S).bind fun x S1 => R.of ((rd S1 x).bind truth) S1) Q E := congrArg (fun m => @wp _ m Q E) (qt_isi T Φ)
@[simp ↓] theorem vqt_lof {m it wh env S Q E} : @wp _ (evT T Φ (.lof m it) wh env S) Q E = @wp _ ((wh env S).bind fun x S1 => R.of ((rd S1 x).bind truth) S1) Q E := congrArg (fun m => @wp _ m Q E) (qt_lof T Φ)
@[simp ↓] theorem vqt_thaw {a wh env S Q E} : @wp _ (evT T Φ (.thaw a) wh env S) Q E = @wp _ ((wh env S).bind fun x S1 => R.of ((rd S1 x).bind truth) S1) Q E := congrArg (fun m => @wp _ m Q E) (qt_thaw T Φ)
@[simp ↓] theorem vqt_rev {a wh env S Q E} : @wp _ (evT T Φ (.rev a) wh env S) Q E = @wp _ ((wh env S).bind fun x S1 => R.of ((rd S1 x).bind truth) S1) Q E := congrArg (fun m => @wp _ m Q E) (qt_rev T Φ)
@[simp ↓] theorem vqt_addL {a b wh env S Q E} : @wp _ (evT T Φ (.addL a b) wh env S) Q E = @wp _ ((wh env S).bind fun x S1 => R.of ((rd S1 x).bind truth) S1) Q E := congrArg (fun m => @wp _ m Q E) (qt_addL T Φ)
@[simp ↓] theorem vqt_dsp {m ks es wh env S Q E} : @wp _ (evT T Φ (.dsp m ks es) wh env S) Q E = @wp _ ((wh env S).bind fun x S1 => R.of ((rd S1 x).bind truth) S1) Q E := congrArg (fun m => @wp _ m Q E) (qt_dsp T Φ)
@[simp ↓] theorem vqt_dcp {a wh env S Q E} : @wp _ (evT T Φ (.dcp a) wh env S) Q E = @wp _ ((wh env S).bind fun x S1 => R.of ((rd S1 x).bind truth) S1) Q E := congrArg (fun m => @wp _ m Q E) (qt_dcp T Φ)
@[simp ↓] theorem vqt_cmpr {m elt tg it cs own wh env S Q E} : @wp _ (evT T Φ (.cmpr m elt tg it cs own) wh env S) Q E = @wp _ ((wh env S).bind fun x S1 => R.of ((rd S1 x).bind truth) S1) Q E := congrArg (fun m => @wp _ m Q E) (qt_cmpr T Φ)
@[simp ↓] theorem vqt_cmprL {m elt tg a cs own wh env S Q E} : @wp _ (evT T Φ (.cmprL m elt tg a cs own) wh env S) Q E = @wp _ ((wh env S).bind fun x S1 => R.of ((rd S1 x).bind truth) S1) Q E := congrArg (fun m => @wp _ m Q E) (qt_cmprL T Φ)
@[simp ↓] theorem vqt_fst {ps wh env S Q E} : @wp _ (evT T Φ (.fst ps) wh env S) Q E = @wp _ ((wh env S).bind fun x S1 => R.of ((rd S1 x).bind truth) S1) Q E := congrArg (fun m => @wp _ m Q E) (qt_fst T Φ)
@[simp ↓] theorem vqt_fmt {a wh env S Q E} : @wp _ (evT T Φ (.fmt a) wh env S) Q E = @wp _ ((wh env S).bind fun x S1 => R.of ((rd S1 x).bind truth) S1) Q E := congrArg (fun m => @wp _ m Q E) (qt_fmt T Φ)
@[simp ↓] theorem vqt_fmr {a wh env S Q E} : @wp _ (evT T Φ (.fmr a) wh env S) Q E = @wp _ ((wh env S).bind fun x S1 => R.of ((rd S1 x).bind truth) S1) Q E := congrArg (fun m => @wp _ m Q E) (qt_fmr T Φ)
@[simp ↓] theorem vqt_frz {a wh env S Q E} : @wp _ (evT T Φ (.frz a) wh env S) Q E = @wp _ ((wh env S).bind fun x S1 => R.of ((rd S1 x).bind truth) S1) Q E := congrArg (fun m => @wp _ m Q E) (qt_frz T Φ)
@[simp ↓] theorem vqt_lenO {a m wh env S Q E} : @wp _ (evT T Φ (.lenO a m) wh env S) Q E = @wp _ ((wh env S).bind fun x S1 => R.of ((rd S1 x).bind truth) S1) Q E := congrArg (fun m => @wp _ m Q E) (qt_lenO T Φ)
@[simp ↓] theorem vqt_callO {a m e wh env S Q E} : @wp _ (evT T Φ (.callO a m e) wh env S) Q E = @wp _ ((wh env S).bind fun x S1 => R.of ((rd S1 x).bind truth) S1) Q E := congrArg (fun m => @wp _ m Q E) (qt_callO T Φ)
end
end Ev
end
section
/-! EvW: depth of calls; stores as a base with what was made since; the pot; comprehensions and loops in walks. Own work. -/
set_option linter.all false
set_option autoImplicit false
set_option maxRecDepth 100000
namespace Ev
/-! ### how deep calls may go -/
def Dp (T : Tab) (k : Nat) (Φ : Phi) : Prop := ∃ n, Φ = callD T (n + k)
theorem Dp.step {T : Tab} {k : Nat} {Φ : Phi} (h : Dp T (k + 1) Φ) : ∃ Ψ, Dp T k Ψ ∧ ∀ (g : Nat) (ws : List W) (S : Store) (x : Fn), T.fns[g]? = some x → ws.length = x.np → Φ g ws S = fin S.length (evSs T Ψ S.length x.body (start x.nl ws) S) := by
  obtain ⟨n, rfl⟩ := h
  refine ⟨callD T (n + k), ⟨n, rfl⟩, fun g ws S x hx hl => ?_⟩
  show (match T.fns[g]? with
    | some f => if ws.length = f.np then fin S.length (evSs T (callD T (n + k)) S.length f.body (Ev.start f.nl ws) S) else .bad
    | none => .bad) = _
  rw [hx]
  simp [hl]
theorem Dp.up {T : Tab} {k j : Nat} {Φ : Phi} (h : Dp T k Φ) (hj : j ≤ k) : Dp T j Φ := by
  obtain ⟨n, rfl⟩ := h
  exact ⟨n + (k - j), by rw [show n + (k - j) + j = n + k by omega]⟩
/-! ### stores: a base, and what stands behind it -/
section
variable {A os : Store} {p i : Nat} {o o' : SO}
@[simp high] theorem st_get0 (h : A.length = p) : (A ++ o :: os)[p]? = some o := by subst h; simp
@[simp high] theorem st_get (h : A.length = p) : (A ++ os)[p + i]? = os[i]? := by subst h; rw [List.getElem?_append_right (by omega)]; congr 1; omega
@[simp high] theorem st_set0 (h : A.length = p) : (A ++ o :: os).set p o' = A ++ o' :: os := by subst h; simp
@[simp high] theorem st_set (h : A.length = p) : (A ++ os).set (p + i) o' = A ++ os.set i o' := by subst h; rw [List.set_append_right _ _ (by omega)]; congr 1; congr 1; omega
@[simp high] theorem st_take0 (h : A.length = p) : (A ++ os).take p = A := by subst h; simp
@[simp high] theorem st_take (h : A.length = p) : (A ++ os).take (p + i) = A ++ os.take i := by subst h; rw [List.take_append, List.take_of_length_le (by omega)]; simp
@[simp high] theorem st_takeA (h : A.length = p) : A.take p = A := by subst h; simp
end
@[simp] theorem le_lim {n : Nat} : (n ≤ lim) = (n ≤ 4000000) := rfl
@[simp] theorem lt_lim {n : Nat} : (n < lim) = (n < 4000000) := rfl
@[simp] theorem rd_loc {S : Store} {n : Nat} : rd S (.loc n) = (S[n]?).bind rdS := (rfl)
@[simp] theorem rdS_lst {xs : List D} : rdS (.lst xs) = some (.lst xs) := (rfl)
@[simp] theorem rdS_dic {ks vs : List D} : rdS (.dic ks vs) = some (.dic ks vs) := (rfl)
@[simp] theorem isLs_loc {S : Store} {n : Nat} : isLs S (.loc n) = (match S[n]? with
    | some (.lst _) => true
    | _ => false) := (rfl)
@[simp] theorem muR_loc {m : Mu} {n : Nat} {ys : List D} {S : Store} : muR m (.loc n) ys S = (match S[n]? with
    | some (.lst xs) => match mutL m xs ys with
      | some (r, zs) => .ok (.d r) (S.set n (.lst zs))
      | none => .bad
    | _ => .bad) := (rfl)
@[simp] theorem mutL_app {xs : List D} {y : D} (h : xs.length < 4000000) : mutL .append xs [y] = some (.non, xs ++ [y]) := if_pos h
@[simp] theorem mutL_ext {xs ys : List D} (h : xs.length + ys.length ≤ 4000000) : mutL .extend xs [.lst ys] = some (.non, xs ++ ys) := if_pos h
@[simp] theorem mutL_pop {xs : List D} : mutL .pop xs [] = (xs[xs.length - 1]?).map fun y => (y, xs.dropLast) := (rfl)
@[simp] theorem seqD_lst {S : Store} {xs : List D} : seqD S (.d (.lst xs)) = some xs := (rfl)
@[simp] theorem seqD_tup {S : Store} {xs : List D} : seqD S (.d (.tup xs)) = some xs := (rfl)
@[simp] theorem cold_lst {T : Tab} {xs : List D} : cold T (.lst xs) = some (.lst xs) := (rfl)
@[simp] theorem cold_dic {T : Tab} {ks vs : List D} : cold T (.dic ks vs) = some (.dic ks vs) := (rfl)
@[simp] theorem coldAt_d {T : Tab} {n : Nat} {x : D} {S : Store} : coldAt T n (.d x) S = .ok (.d x) S := (rfl)
theorem coldAt_loc {T : Tab} {n m : Nat} {S : Store} {o : SO} {x : D} (h : m = n) (hl : S.length = n + 1) (ho : S[n]? = some o) (hx : cold T o = some x) : coldAt T n (.loc m) S = .ok (.d x) (S.take n) := by
  subst h
  show (if m = m ∧ S.length = m + 1 then _ else _) = _
  rw [if_pos ⟨rfl, hl⟩, ho, Option.bind_some, hx]
theorem bi_repr1 {d : D} (h : reprOk d = true) : bi .repr [d] = some (.str (reprD d)) := by
  show (if reprOk d = true then some (D.str (reprD d)) else none) = _
  rw [if_pos h]
mutual
theorem eqv_self : ∀ (n : Nat) (x : D), plain n x = true → eqv x x = true
  | _, .non, _ => by simp [eqv]
  | _, .bl _, _ => by simp [eqv]
  | _, .int _, _ => by simp [eqv]
  | _, .str _, _ => by simp [eqv]
  | n + 1, .lst xs, h => by rw [eqv]; exact eqvs_self n xs (by simpa [plain] using h)
  | n + 1, .tup xs, h => by rw [eqv]; exact eqvs_self n xs (by simpa [plain] using h)
  | 0, .lst _, h => by simp [plain] at h
  | 0, .tup _, h => by simp [plain] at h
  | _, .scr _, h => by simp [plain] at h
  | _, .dic _ _, h => by simp [plain] at h
  | _, .ins _ _, h => by simp [plain] at h
theorem eqvs_self : ∀ (n : Nat) (xs : List D), plains n xs = true → eqvs xs xs = true
  | _, [], _ => by simp [eqvs]
  | n, x :: xs, h => by
    simp only [plains, Bool.and_eq_true] at h
    rw [eqvs, eqv_self n x h.1, eqvs_self n xs h.2]
    rfl
end
theorem cmp_lst_self {xs : List D} (h : plains 19 xs = true) : cmp .eq (.lst xs) (.lst xs) = some (.bl true) := by
  have e : pl (.lst xs) = true := by show plains 19 xs = true; exact h
  show (if pl (.lst xs) && pl (.lst xs) then some (D.bl (eqv (.lst xs) (.lst xs))) else none) = _
  rw [e, eqv_self 20 (.lst xs) e]
  rfl
@[simp] theorem biWb_list {T : Tab} {Φ : Phi} {ws : List W} {S : Store} : biW T Φ .list ws S = (R.of ((rds S ws).bind (bi .list)) S).bind fun z S => .ok (.d z) S := by cases ws with | nil => rfl | cons w r => cases r <;> rfl
@[simp] theorem biWb_tuple {T : Tab} {Φ : Phi} {ws : List W} {S : Store} : biW T Φ .tuple ws S = (R.of ((rds S ws).bind (bi .tuple)) S).bind fun z S => .ok (.d z) S := by cases ws with | nil => rfl | cons w r => cases r <;> rfl
@[simp] theorem biWb_sum {T : Tab} {Φ : Phi} {ws : List W} {S : Store} : biW T Φ .sum ws S = (R.of ((rds S ws).bind (bi .sum)) S).bind fun z S => .ok (.d z) S := by cases ws with | nil => rfl | cons w r => cases r <;> rfl
@[simp] theorem biWb_max1 {T : Tab} {Φ : Phi} {ws : List W} {S : Store} : biW T Φ .max1 ws S = (R.of ((rds S ws).bind (bi .max1)) S).bind fun z S => .ok (.d z) S := by cases ws with | nil => rfl | cons w r => cases r <;> rfl
@[simp] theorem biWb_min1 {T : Tab} {Φ : Phi} {ws : List W} {S : Store} : biW T Φ .min1 ws S = (R.of ((rds S ws).bind (bi .min1)) S).bind fun z S => .ok (.d z) S := by cases ws with | nil => rfl | cons w r => cases r <;> rfl
@[simp] theorem biWb_any {T : Tab} {Φ : Phi} {ws : List W} {S : Store} : biW T Φ .any ws S = (R.of ((rds S ws).bind (bi .any)) S).bind fun z S => .ok (.d z) S := by cases ws with | nil => rfl | cons w r => cases r <;> rfl
@[simp] theorem biWb_all {T : Tab} {Φ : Phi} {ws : List W} {S : Store} : biW T Φ .all ws S = (R.of ((rds S ws).bind (bi .all)) S).bind fun z S => .ok (.d z) S := by cases ws with | nil => rfl | cons w r => cases r <;> rfl
@[simp] theorem biWb_divmod {T : Tab} {Φ : Phi} {ws : List W} {S : Store} : biW T Φ .divmod ws S = (R.of ((rds S ws).bind (bi .divmod)) S).bind fun z S => .ok (.d z) S := by cases ws with | nil => rfl | cons w r => cases r <;> rfl
@[simp] theorem biWb_int {T : Tab} {Φ : Phi} {ws : List W} {S : Store} : biW T Φ .int ws S = (R.of ((rds S ws).bind (bi .int)) S).bind fun z S => .ok (.d z) S := by cases ws with | nil => rfl | cons w r => cases r <;> rfl
@[simp] theorem biWb_abs {T : Tab} {Φ : Phi} {ws : List W} {S : Store} : biW T Φ .abs ws S = (R.of ((rds S ws).bind (bi .abs)) S).bind fun z S => .ok (.d z) S := by cases ws with | nil => rfl | cons w r => cases r <;> rfl
@[simp] theorem biWb_len {T : Tab} {Φ : Phi} {ws : List W} {S : Store} : biW T Φ .len ws S = (R.of ((rds S ws).bind (bi .len)) S).bind fun z S => .ok (.d z) S := by cases ws with | nil => rfl | cons w r => cases r <;> rfl
@[simp] theorem biWb_max2 {T : Tab} {Φ : Phi} {ws : List W} {S : Store} : biW T Φ .max2 ws S = (R.of ((rds S ws).bind (bi .max2)) S).bind fun z S => .ok (.d z) S := by cases ws with | nil => rfl | cons w r => cases r <;> rfl
@[simp] theorem biWb_min2 {T : Tab} {Φ : Phi} {ws : List W} {S : Store} : biW T Φ .min2 ws S = (R.of ((rds S ws).bind (bi .min2)) S).bind fun z S => .ok (.d z) S := by cases ws with | nil => rfl | cons w r => cases r <;> rfl
@[simp] theorem biWb_max3 {T : Tab} {Φ : Phi} {ws : List W} {S : Store} : biW T Φ .max3 ws S = (R.of ((rds S ws).bind (bi .max3)) S).bind fun z S => .ok (.d z) S := by cases ws with | nil => rfl | cons w r => cases r <;> rfl
theorem bm_join {sep : Tx} {xs : List D} {ts : List Tx} (h : txsOf xs = some ts) (hl : (ts.map (·.length)).sum + ts.length * sep.length ≤ 4000000) : bm .join (.str sep) [.lst xs] = some (.str (joinT sep ts)) := by
  unfold bm
  simp only [h, Option.bind_some]
  rw [if_pos (by unfold lim; omega)]
theorem cmp_lst_ne {xs : List D} (h : plains 19 xs = true) : cmp .ne (.lst xs) (.lst xs) = some (.bl false) := by
  have e : pl (.lst xs) = true := by show plains 19 xs = true; exact h
  show (if pl (.lst xs) && pl (.lst xs) then some (D.bl (!eqv (.lst xs) (.lst xs))) else none) = _
  rw [e, eqv_self 20 (.lst xs) e]
  rfl
theorem plains_all {n : Nat} {xs : List D} (h : ∀ x ∈ xs, plain n x = true) : plains n xs = true := by
  induction xs with
  | nil => rfl
  | cons x xs ih => simp only [plains, Bool.and_eq_true]; exact ⟨h x List.mem_cons_self, ih fun y hy => h y (List.mem_cons_of_mem _ hy)⟩
theorem e_repr {T : Tab} {Φ : Phi} {x : D} {S : Store} (h : clsOf S (.d x) = none) (hr : reprOk x = true) : biW T Φ .repr [.d x] S = .ok (.d (.str (reprD x))) S := by
  have e : spec T Cl.reprf S (.d x) = none := by simp [spec, h]
  have r : bi .repr [x] = some (.str (reprD x)) := bi_repr1 hr
  unfold biW
  simp only [e, rds, rd, Option.bind_some, Option.map_some, r, R.of_some, R.bind_ok]
@[simp] theorem intRange_length {i j : Int} : (intRange i j).length = (j - i).toNat := by simp [intRange]
/-- a comparison of data that are no instances -/
theorem e_cmp {T : Tab} {Φ : Phi} {o : COp} {x y z : D} {S : Store} (h : clsOf S (.d x) = none) (hc : cmp o x y = some z) : cmpW T Φ o (.d x) (.d y) S = .ok (.d z) S := by
  have e : spec T Cl.eqf S (.d x) = none := by simp [spec, h]
  unfold cmpW
  rw [e]
  cases o <;> simp only [rd, hc, R.of_some, R.bind_ok]
theorem ne_of_eq {xs ys : List D} {b : Bool} (h : cmp .eq (.tup xs) (.tup ys) = some (.bl b)) : cmp .ne (.tup xs) (.tup ys) = some (.bl (!b)) := by
  have h : (if pl (.tup xs) && pl (.tup ys) then some (D.bl (eqv (.tup xs) (.tup ys))) else none) = some (.bl b) := h
  show (if pl (.tup xs) && pl (.tup ys) then some (D.bl (!eqv (.tup xs) (.tup ys))) else none) = _
  split at h
  · rename_i c
    rw [if_pos c]
    cases h
    rfl
  · cases h
@[simp] theorem accD_def {m : Bool} {p : Nat} {ks vs : List D} {S : Store} : accD m p ks vs S = (match S[p]? with
  | some (.dic [] []) => if ks.length = vs.length ∧ ks.length ≤ 15 ∧ nodupK ks = true then (if m then .ok (.loc p) (S.take p ++ [.dic ks vs]) else .ok (.d (.dic ks vs)) (S.take p)) else .bad
  | _ => .bad) := (rfl)
@[simp] theorem nodupK_nil : nodupK [] = true := rfl
@[simp] theorem nodupK_cons {k : D} {r : List D} : nodupK (k :: r) = (isKey k && !(r.any fun x => keyEq k x) && nodupK r) := rfl
@[simp] theorem isKey_str {s : Tx} : isKey (.str s) = true := rfl
@[simp] theorem isKey_int {i : Int} : isKey (.int i) = true := rfl
@[simp] theorem keyEq_str {s t : Tx} : keyEq (.str s) (.str t) = decide (s = t) := rfl
@[simp] theorem keyEq_int {s t : Int} : keyEq (.int s) (.int t) = decide (s = t) := rfl
@[simp] theorem k_eqb {a b : Bool} : cmp .eq (.bl a) (.bl b) = some (.bl (a == b)) := by cases a <;> cases b <;> rfl
@[simp] theorem k_neb {a b : Bool} : cmp .ne (.bl a) (.bl b) = some (.bl (a != b)) := by cases a <;> cases b <;> rfl
theorem in_two {a x y : Int} : cmp .in_ (.int a) (.tup [.int x, .int y]) = some (.bl (decide (a = x ∨ a = y))) := by
  have e : ∀ u : Int, eqv (.int u) (.int a) = decide (a = u) := fun u => by
    show (u == a) = _
    by_cases h : a = u
    · subst h; simp
    · have : ¬u = a := fun e => h e.symm
      simp [h, this]
  show some (D.bl ([D.int x, D.int y].any fun z => eqv z (.int a))) = _
  simp only [List.any_cons, List.any_nil, Bool.or_false, e]
  by_cases c1 : a = x <;> by_cases c2 : a = y <;> simp [c1, c2]
@[simp] theorem lookD_str {s : Tx} {ks vs : List D} {v : D} {z : Tx} : lookD (.str s :: ks) (v :: vs) z = if s = z then some v else lookD ks vs z := (rfl)
@[simp high] theorem coldAt_dic {T : Tab} {A : Store} {n : Nat} {ks vs : List D} (h : A.length = n) : coldAt T n (.loc n) (A ++ [.dic ks vs]) = .ok (.d (.dic ks vs)) A := by
  subst h
  rw [coldAt_loc (o := .dic ks vs) (x := .dic ks vs) rfl (by simp) (by simp) rfl]
  simp
@[simp high] theorem coldAt_lst {T : Tab} {A : Store} {n : Nat} {xs : List D} (h : A.length = n) : coldAt T n (.loc n) (A ++ [.lst xs]) = .ok (.d (.lst xs)) A := by
  subst h
  rw [coldAt_loc (o := .lst xs) (x := .lst xs) rfl (by simp) (by simp) rfl]
  simp
theorem any_int {d : Int} {xs : List Int} : ((xs.map D.int).any fun y => eqv y (.int d)) = decide (d ∈ xs) := by
  induction xs with
  | nil => simp
  | cons x xs ih =>
    have e : eqv (.int x) (.int d) = decide (d = x) := by
      show (x == d) = _
      by_cases h : d = x
      · subst h; simp
      · have : ¬x = d := fun e => h e.symm
        simp [h, this]
    rw [List.map_cons, List.any_cons, ih, e]
    by_cases h1 : d = x <;> by_cases h2 : d ∈ xs <;> simp [h1, h2]
theorem pl_ints {xs : List Int} {n : Nat} : plains n (xs.map D.int) = true := plains_all fun y hy => by
  obtain ⟨z, -, rfl⟩ := List.mem_map.1 hy
  rfl
theorem notIn_ints {d : Int} {xs : List Int} : cmp .notIn (.int d) (.lst (xs.map .int)) = some (.bl (!decide (d ∈ xs))) := by
  have e : pl (.lst (xs.map D.int)) = true := by show plains 19 _ = true; exact pl_ints
  show (if pl (.int d) && pl (.lst (xs.map D.int)) then some (D.bl (!(xs.map D.int).any fun y => eqv y (.int d))) else none) = _
  rw [e, any_int]
  rfl
theorem in_ints {d : Int} {xs : List Int} : cmp .in_ (.int d) (.lst (xs.map .int)) = some (.bl (decide (d ∈ xs))) := by
  have e : pl (.lst (xs.map D.int)) = true := by show plains 19 _ = true; exact pl_ints
  show (if pl (.int d) && pl (.lst (xs.map D.int)) then some (D.bl ((xs.map D.int).any fun y => eqv y (.int d))) else none) = _
  rw [e, any_int]
  rfl
/-! ### the pot -/
/-- what asks the pot and answers with data -/
def Pt (l : Nat) (F : Store → R W) (P : W → Prop) : Prop := ∀ S, PotAt l S → ∃ w S', F S = .ok w S' ∧ P w ∧ Ch l S S'
/-- .. and answers with an object made anew -/
def Po (l : Nat) (F : Store → R W) (P : SO → Prop) : Prop := ∀ S, PotAt l S → ∃ o S', F S = .ok (.loc S.length) (S' ++ [o]) ∧ P o ∧ Ch l S S'
section
variable {l : Nat} {F : Store → R W} {P : W → Prop} {PO : SO → Prop} {Q : Cn W} {E : Cx} {S A os : Store}
theorem Pt.mk' (h : ∀ S, PotAt l S → ∀ K : Cn W, (∀ w S', P w → Ch l S S' → K.run w S') → @wp W (F S) K noE) : Pt l F P := fun S hp => by
  obtain ⟨w, S', e, h1, h2⟩ := wp_get (P := fun w S' => P w ∧ Ch l S S') fun K hK => h S hp K fun w S' h1 h2 => hK w S' ⟨h1, h2⟩
  exact ⟨w, S', e, h1, h2⟩
theorem Po.mk' (h : ∀ S, PotAt l S → ∀ K : Cn W, (∀ o A, PO o → Ch l S A → K.run (.loc S.length) (A ++ [o])) → @wp W (F S) K noE) : Po l F PO := fun S hp => by
  obtain ⟨w, S', e, o, A, rfl, rfl, h1, h2⟩ := wp_get (P := fun w S' => ∃ o A, w = .loc S.length ∧ S' = A ++ [o] ∧ PO o ∧ Ch l S A) fun K hK => h S hp K fun o A h1 h2 => hK _ _ ⟨o, A, rfl, rfl, h1, h2⟩
  exact ⟨o, A, e, h1, h2⟩
theorem Pt.w (h : Pt l F P) (c : Ch l S A) (hq : ∀ w A', P w → Ch l S A' → A'.length = S.length → Q.run w (A' ++ os)) : @wp W (F (A ++ os)) Q E := by
  obtain ⟨w, S', e, h1, h2⟩ := h (A ++ os) c.pot.app
  obtain ⟨A', rfl, h3⟩ := h2.cut c.pot.lt
  rw [e, wp_ok]
  exact hq w A' h1 (c.trans h3) (c.trans h3).1
theorem Pt.w0 (h : Pt l F P) (c : Ch l S A) (hq : ∀ w A', P w → Ch l S A' → A'.length = S.length → Q.run w A') : @wp W (F A) Q E := by
  obtain ⟨w, S', e, h1, h2⟩ := h A c.pot
  rw [e, wp_ok]
  exact hq w S' h1 (c.trans h2) (c.trans h2).1
theorem Po.w (h : Po l F PO) (c : Ch l S A) (hq : ∀ o A', PO o → Ch l S A' → A'.length = S.length → Q.run (.loc (S.length + os.length)) (A' ++ (os ++ [o]))) : @wp W (F (A ++ os)) Q E := by
  obtain ⟨o, S', e, h1, h2⟩ := h (A ++ os) c.pot.app
  obtain ⟨A', rfl, h3⟩ := h2.cut c.pot.lt
  rw [e, wp_ok, List.length_append, c.1, List.append_assoc]
  exact hq o A' h1 (c.trans h3) (c.trans h3).1
theorem Po.w0 (h : Po l F PO) (c : Ch l S A) (hq : ∀ o A', PO o → Ch l S A' → A'.length = S.length → Q.run (.loc S.length) (A' ++ [o])) : @wp W (F A) Q E := by
  obtain ⟨o, S', e, h1, h2⟩ := h A c.pot
  rw [e, wp_ok, c.1]
  exact hq o S' h1 (c.trans h2) (c.trans h2).1
end
section
variable {T : Tab} {Φ : Phi} {l : Nat} {S A os : Store} {E : Cx}
/-- a comprehension whose turns draw -/
theorem wp_cmpr {elt : Ex} {tg : Tn} {it : It} {own : List Nat} {env : Env} {xs : List D} {Q : Cn W} (P : D → D → Prop) (c : Ch l S A) (hi : evI T Φ it env (A ++ os) = .ok xs (A ++ os)) (hl : xs.length ≤ 4000000)
    (hs : ∀ x ∈ xs, ∀ A' acc, Ch l S A' → A'.length = S.length → ∃ e, bindN tg x (wipe own env) = some e ∧ ∀ K : Cn W, (∀ y A2, Ch l S A2 → P x y → K.run (.d y) (A2 ++ (os ++ [.hid acc]))) → @wp W (evE T Φ elt e (A' ++ (os ++ [.hid acc]))) K noE)
    (hq : ∀ ys A', Ch l S A' → A'.length = S.length → All2 P xs ys → Q.run (.d (.lst ys)) (A' ++ os)) : @wp W (evE T Φ (.cmpr false elt tg it .no own) env (A ++ os)) Q E := by
  obtain ⟨ys, A1, B, h, h1, ⟨A2, rfl, h2, -⟩, h4⟩ := cmpr_st (Q := fun Z B => ∃ A', Z = A' ++ os ∧ Ch l S A' ∧ B = []) (P := P) hi ⟨A, rfl, c, rfl⟩ hl (fun x hx Z B acc hZ ⟨A', e, c', hB⟩ => by
    subst e hB
    obtain ⟨e, h1, h2⟩ := hs x hx A' acc c' c'.1
    obtain ⟨w, Z, h3, y, A2, rfl, rfl, c2, hp⟩ := wp_get (P := fun w Z => ∃ y A2, w = .d y ∧ Z = A2 ++ (os ++ [.hid acc]) ∧ Ch l S A2 ∧ P x y) fun K hK => h2 K fun y A2 h3 h4 => hK _ _ ⟨y, A2, rfl, rfl, h3, h4⟩
    refine ⟨e, y, A2 ++ os, [], h1, ?_, ?_, ⟨A2, rfl, c2, rfl⟩, hp⟩
    · rw [List.append_assoc, h3, List.append_assoc]
    · rw [List.length_append, List.length_append, c2.1, c.1])
  rw [h, wp_ok]
  exact hq ys A2 h2 h2.1 h4
theorem wp_cmpr0 {elt : Ex} {tg : Tn} {it : It} {own : List Nat} {env : Env} {xs : List D} {Q : Cn W} (P : D → D → Prop) (c : Ch l S A) (hi : evI T Φ it env A = .ok xs A) (hl : xs.length ≤ 4000000)
    (hs : ∀ x ∈ xs, ∀ A' acc, Ch l S A' → A'.length = S.length → ∃ e, bindN tg x (wipe own env) = some e ∧ ∀ K : Cn W, (∀ y A2, Ch l S A2 → P x y → K.run (.d y) (A2 ++ [.hid acc])) → @wp W (evE T Φ elt e (A' ++ [.hid acc])) K noE)
    (hq : ∀ ys A', Ch l S A' → A'.length = S.length → All2 P xs ys → Q.run (.d (.lst ys)) A') : @wp W (evE T Φ (.cmpr false elt tg it .no own) env A) Q E := by
  have := wp_cmpr (os := []) (E := E) (Q := Q) P c (hi := by simpa using hi) hl (by simpa using hs) (by simpa using hq)
  simpa using this
/-- a loop, by what holds at each turn's begin -/
theorem wp_loop {n0 : Nat} {tg : Tn} {it : It} {body : Sms} {env : Env} {Z Z1 : Store} {xs : List D} {Q : Cn Fl} (I : Env → Store → Prop) (hi : evI T Φ it env Z = .ok xs Z1) (h0 : I env Z1)
    (hs : ∀ x ∈ xs, ∀ env Z, I env Z → ∃ e, bindN tg x env = some e ∧ ∀ K : Cn Fl, (∀ e' Z', I e' Z' → K.run (.nx e') Z' ∧ K.run (.ct e') Z') → @wp Fl (evSs T Φ n0 body e Z) K noE)
    (hq : ∀ e Z', I e Z' → Q.run (.nx e) Z') : @wp Fl (evS T Φ n0 (.loop tg it body) env Z) Q E := by
  obtain ⟨e', S', h1, h2⟩ := loop_inv (body := fun x env S => match bindN tg x env with
      | some e => evSs T Φ n0 body e S
      | none => .bad) I h0 (fun x hx env Z hI => by
    obtain ⟨e, h1, h2⟩ := hs x hx env Z hI
    obtain ⟨fl, Z', h3, e', h4, h5⟩ := wp_get (P := fun fl Z' => ∃ e', (fl = .nx e' ∨ fl = .ct e') ∧ I e' Z') fun K hK => h2 K fun e' Z' h => ⟨hK _ _ ⟨e', .inl rfl, h⟩, hK _ _ ⟨e', .inr rfl, h⟩⟩
    refine ⟨e', Z', ?_, h5⟩
    simp only [h1, h3]
    rcases h4 with rfl | rfl
    · exact .inl rfl
    · exact .inr rfl)
  rw [q_loop, hi, R.bindX_ok]
  exact wp_eq h1 (hq e' S' h2)
/-- .. whose turns are counted -/
theorem wp_loopN {n0 : Nat} {tg : Tn} {it : It} {body : Sms} {env : Env} {Z Z1 : Store} {xs : List D} {Q : Cn Fl} (I : Nat → Env → Store → Prop) (hi : evI T Φ it env Z = .ok xs Z1) (h0 : I 0 env Z1)
    (hs : ∀ k x, xs[k]? = some x → ∀ env Z, I k env Z → ∃ e, bindN tg x env = some e ∧ ∀ K : Cn Fl, (∀ e' Z', I (k + 1) e' Z' → K.run (.nx e') Z' ∧ K.run (.ct e') Z') → @wp Fl (evSs T Φ n0 body e Z) K noE)
    (hq : ∀ e Z', I xs.length e Z' → Q.run (.nx e) Z') : @wp Fl (evS T Φ n0 (.loop tg it body) env Z) Q E := by
  obtain ⟨e', S', h1, h2⟩ := loop_cnt (T := T) (Φ := Φ) (n0 := n0) (tg := tg) (body := body) I hi h0 (fun k x env Z hx hI => by
    obtain ⟨e, h1, h2⟩ := hs k x hx env Z hI
    obtain ⟨fl, Z', h3, e', h4, h5⟩ := wp_get (P := fun fl Z' => ∃ e', (fl = .nx e' ∨ fl = .ct e') ∧ I (k + 1) e' Z') fun K hK => h2 K fun e' Z' h => ⟨hK _ _ ⟨e', .inl rfl, h⟩, hK _ _ ⟨e', .inr rfl, h⟩⟩
    refine ⟨e, e', Z', h1, ?_, h5⟩
    rw [h3]
    rcases h4 with rfl | rfl
    · exact .inl rfl
    · exact .inr rfl)
  rw [h1, wp_ok]
  exact hq e' S' h2
/-- a comprehension over a list of the store that stays -/
theorem accL_at {α : Type} {f : D → Store → R (Option D)} {S1 : Store} {k : Nat} {ys : List α} {c : α → D} {g : α → D} (hk : S1[k]? = some (.lst (ys.map c))) (hl : ys.length ≤ 4000000) (hs : ∀ x ∈ ys, ∀ acc, f (c x) (S1 ++ [.hid acc]) = .ok (some (g x)) (S1 ++ [.hid acc])) :
    ∀ (n i : Nat), n + i = ys.length → ∀ acc : List D, acc.length + n ≤ 4000000 → accL f S1.length k n i (S1 ++ [.hid acc]) = .ok () (S1 ++ [.hid (acc ++ (ys.drop i).map g)])
  | 0, i, hi, acc, ha => by
    have hkl := (List.getElem?_eq_some_iff.1 hk).1
    unfold accL
    rw [List.getElem?_append_left hkl, hk]
    have : ys.drop i = [] := List.drop_eq_nil_of_le (by omega)
    simp [this]; omega
  | n + 1, i, hi, acc, ha => by
    have hkl := (List.getElem?_eq_some_iff.1 hk).1
    have hx : (ys.map c)[i]? = some (c ys[i]) := by rw [List.getElem?_map, List.getElem?_eq_getElem (show i < ys.length by omega)]; rfl
    have e := hs ys[i] (List.getElem_mem _) acc
    have ih := accL_at hk hl hs n (i + 1) (by omega) (acc ++ [g ys[i]]) (by simp; omega)
    unfold accL
    rw [List.getElem?_append_left hkl, hk]
    simp only [hx, e, R.bind_ok]
    have e2 : (S1 ++ [SO.hid acc])[S1.length]? = some (.hid acc) := by simp
    simp only [e2]
    rw [if_pos (show acc.length < lim by unfold lim; omega)]
    have e3 : (S1 ++ [SO.hid acc]).set S1.length (.hid (acc ++ [g ys[i]])) = S1 ++ [.hid (acc ++ [g ys[i]])] := by rw [List.set_append_right _ _ (Nat.le_refl _)]; simp
    rw [e3, ih, List.drop_eq_getElem_cons (show i < ys.length by omega)]
    simp only [List.map_cons, List.append_assoc, List.cons_append, List.nil_append]
theorem cmprL_map {α : Type} {elt : Ex} {tg : Tn} {a : Ex} {own : List Nat} {env : Env} {S S1 : Store} {k : Nat} {ys : List α} {c : α → D} (g : α → D) (ha : evE T Φ a env S = .ok (.loc k) S1) (hk : S1[k]? = some (.lst (ys.map c))) (hl : ys.length ≤ 4000000)
    (hs : ∀ x ∈ ys, ∀ acc, ∃ e, bindN tg (c x) (wipe own env) = some e ∧ evE T Φ elt e (S1 ++ [.hid acc]) = .ok (.d (g x)) (S1 ++ [.hid acc])) :
    evE T Φ (.cmprL false elt tg a .no own) env S = .ok (.d (.lst (ys.map g))) S1 := by
  rw [q_cmprL, ha, R.bind_ok]
  simp only [hk]
  have len : (ys.map c).length = ys.length := List.length_map _
  rw [len, accL_at (g := g) hk hl (fun x hx acc => by
    obtain ⟨e, h1, h2⟩ := hs x hx acc
    simp [h1, h2]) ys.length 0 rfl [] (by simpa using hl)]
  simp [accE_data]
/-- a list of the caller's walked as it stands, when it stays -/
theorem live_cnt {n0 k : Nat} {en : Bool} {tg : Tn} {body : Sms} {xs : List D} (I : Nat → Env → Store → Prop) (hst : ∀ j env Z, I j env Z → Z[k]? = some (.lst xs))
    (hs : ∀ j x, xs[j]? = some x → ∀ env Z, I j env Z → ∃ e, bindN tg (if en then .tup [.int (j : Nat), x] else x) env = some e ∧ ∀ K : Cn Fl, (∀ e' Z', I (j + 1) e' Z' → K.run (.nx e') Z' ∧ K.run (.ct e') Z') → @wp Fl (evSs T Φ n0 body e Z) K noE) :
    ∀ (f j : Nat), f + j = xs.length → ∀ env Z, I j env Z → ∃ e' Z', liveR en (fun x env S => match bindN tg x env with
      | some e => evSs T Φ n0 body e S
      | none => .bad) k f j env Z = .ok (.nx e') Z' ∧ I xs.length e' Z'
  | 0, j, hj, env, Z, hI => by
    refine ⟨env, Z, ?_, ?_⟩
    · unfold liveR
      rw [hst j env Z hI]
      simp; omega
    · have : j = xs.length := by omega
      rw [← this]; exact hI
  | f + 1, j, hj, env, Z, hI => by
    have hx : xs[j]? = some xs[j] := List.getElem?_eq_getElem (by omega)
    obtain ⟨e, h1, h2⟩ := hs j _ hx env Z hI
    obtain ⟨fl, Z', h3, e', h4, h5⟩ := wp_get (P := fun fl Z' => ∃ e', (fl = .nx e' ∨ fl = .ct e') ∧ I (j + 1) e' Z') fun K hK => h2 K fun e' Z' h => ⟨hK _ _ ⟨e', .inl rfl, h⟩, hK _ _ ⟨e', .inr rfl, h⟩⟩
    obtain ⟨e2, Z2, h6, h7⟩ := live_cnt (en := en) (tg := tg) (body := body) I hst hs f (j + 1) (by omega) e' Z' h5
    refine ⟨e2, Z2, ?_, h7⟩
    unfold liveR
    rw [hst j env Z hI]
    simp only [hx, h1, h3]
    rcases h4 with rfl | rfl
    · exact h6
    · exact h6
theorem wp_loopL {n0 k : Nat} {en : Bool} {tg : Tn} {a : Ex} {body : Sms} {env : Env} {Z Z1 : Store} {xs : List D} {Q : Cn Fl} (I : Nat → Env → Store → Prop) (ha : evE T Φ a env Z = .ok (.loc k) Z1) (hk : k < n0) (h0 : I 0 env Z1) (hst : ∀ j env Z, I j env Z → Z[k]? = some (.lst xs))
    (hs : ∀ j x, xs[j]? = some x → ∀ env Z, I j env Z → ∃ e, bindN tg (if en then .tup [.int (j : Nat), x] else x) env = some e ∧ ∀ K : Cn Fl, (∀ e' Z', I (j + 1) e' Z' → K.run (.nx e') Z' ∧ K.run (.ct e') Z') → @wp Fl (evSs T Φ n0 body e Z) K noE)
    (hq : ∀ e Z', I xs.length e Z' → Q.run (.nx e) Z') : @wp Fl (evS T Φ n0 (.loopL en tg a body) env Z) Q E := by
  obtain ⟨e', Z', h1, h2⟩ := live_cnt (T := T) (Φ := Φ) (n0 := n0) (en := en) (tg := tg) (body := body) I hst hs xs.length 0 (by omega) env Z1 h0
  unfold evS
  rw [ha, R.bindX_ok]
  simp only [hk, if_true, hst 0 env Z1 h0]
  exact wp_eq h1 (hq e' Z' h2)
/-- a list or a tuple, as data or as a list of the caller's that stays, walked -/
theorem wp_loopA {n0 : Nat} {en : Bool} {tg : Tn} {a : Ex} {body : Sms} {env : Env} {Z Z1 : Store} {xs : List D} {w : W} {Q : Cn Fl} (I : Nat → Env → Store → Prop) (ha : evE T Φ a env Z = .ok w Z1) (hw : w = .d (.lst xs) ∨ w = .d (.tup xs) ∨ ∃ k, w = .loc k ∧ k < n0 ∧ ∀ j env Z, I j env Z → Z[k]? = some (.lst xs)) (h0 : I 0 env Z1)
    (hs : ∀ j x, xs[j]? = some x → ∀ env Z, I j env Z → ∃ e, bindN tg (if en then .tup [.int (j : Nat), x] else x) env = some e ∧ ∀ K : Cn Fl, (∀ e' Z', I (j + 1) e' Z' → K.run (.nx e') Z' ∧ K.run (.ct e') Z') → @wp Fl (evSs T Φ n0 body e Z) K noE)
    (hq : ∀ e Z', I xs.length e Z' → Q.run (.nx e) Z') : @wp Fl (evS T Φ n0 (.loopL en tg a body) env Z) Q E := by
  have dat : w = .d (.lst xs) ∨ w = .d (.tup xs) → @wp Fl (evS T Φ n0 (.loopL en tg a body) env Z) Q E := fun hw => by
    have len : (if en then enumD xs else xs).length = xs.length := by cases en <;> simp [enumD]
    obtain ⟨e', S', h1, h2⟩ := loop_cntR (body := fun x env S => match bindN tg x env with
        | some e => evSs T Φ n0 body e S
        | none => .bad) (xs := if en then enumD xs else xs) I h0 fun j y env Z hy hI => by
      obtain ⟨x, hx, ey⟩ : ∃ x, xs[j]? = some x ∧ y = if en then .tup [.int (j : Nat), x] else x := by
        cases en with
        | false => exact ⟨y, hy, rfl⟩
        | true =>
          simp only [enumD, if_true, List.getElem?_map, Option.map_eq_some_iff] at hy
          obtain ⟨q, hq, rfl⟩ := hy
          rw [List.getElem?_zipIdx] at hq
          obtain ⟨x, hx, rfl⟩ := Option.map_eq_some_iff.mp hq
          exact ⟨x, hx, by simp⟩
      obtain ⟨e, h1, h2⟩ := hs j x hx env Z hI
      obtain ⟨fl, Z', h3, e', h4, h5⟩ := wp_get (P := fun fl Z' => ∃ e', (fl = .nx e' ∨ fl = .ct e') ∧ I (j + 1) e' Z') fun K hK => h2 K fun e' Z' h => ⟨hK _ _ ⟨e', .inl rfl, h⟩, hK _ _ ⟨e', .inr rfl, h⟩⟩
      refine ⟨e', Z', ?_, h5⟩
      rw [ey]
      simp only [h1, h3]
      rcases h4 with rfl | rfl
      · exact .inl rfl
      · exact .inr rfl
    rw [len] at h2
    unfold evS
    rw [ha, R.bindX_ok]
    rcases hw with rfl | rfl
    · exact wp_eq h1 (hq e' S' h2)
    · exact wp_eq h1 (hq e' S' h2)
  rcases hw with hw | hw | ⟨k, rfl, hk, hst⟩
  · exact dat (.inl hw)
  · exact dat (.inr hw)
  · exact wp_loopL I ha hk h0 hst hs hq
theorem wp_while {n0 : Nat} {c : Ex} {body : Sms} {env : Env} {Z : Store} {Q : Cn Fl} (I : Nat → Env → Store → Prop) (m : Nat) (h0 : I m env Z)
    (hs : ∀ m e Z, I m e Z → (evT T Φ c (evE T Φ c) e Z = .ok false Z ∧ Q.run (.nx e) Z) ∨ (evT T Φ c (evE T Φ c) e Z = .ok true Z ∧ ∀ K : Cn Fl, (∀ m' e' Z', m' < m → I m' e' Z' → K.run (.nx e') Z' ∧ K.run (.ct e') Z') → @wp Fl (evSs T Φ n0 body e Z) K noE)) :
    @wp Fl (evS T Φ n0 (.whil c body) env Z) Q E := by
  obtain ⟨e', S', h1, h2⟩ := while_inv (c := fun env S => evT T Φ c (evE T Φ c) env S) (b := fun env S => evSs T Φ n0 body env S) I (fun e S => Q.run (.nx e) S) (fun m e Z hI => by
    rcases hs m e Z hI with h | ⟨h1, h2⟩
    · exact .inl h
    · obtain ⟨fl, Z', h3, m', e', h4, h5, h6⟩ := wp_get (P := fun fl Z' => ∃ m' e', (fl = .nx e' ∨ fl = .ct e') ∧ m' < m ∧ I m' e' Z') fun K hK => h2 K fun m' e' Z' h4 h5 => ⟨hK _ _ ⟨m', e', .inl rfl, h4, h5⟩, hK _ _ ⟨m', e', .inr rfl, h4, h5⟩⟩
      refine .inr ⟨h1, m', e', Z', ?_, h5, h6⟩
      rcases h4 with rfl | rfl
      · exact .inl h3
      · exact .inr h3) m env Z h0
  exact wp_eq (m := evS T Φ n0 (.whil c body) env Z) h1 h2
end
end Ev
end
section
/-! EvR: what repr tells of lists and tuples of data. Own work. -/
set_option linter.all false
set_option autoImplicit false
set_option maxRecDepth 100000
namespace Ev
open PySem
theorem tx_shown (x : D) : (toPy x).shown = tx (reprD x) := by
  unfold reprD tx
  cases (toPy x).shown with
  | mk c => simp
theorem shownAll_toPys : ∀ xs : List D, PyData.shownAll (toPys xs) = (xs.map reprD).map tx
  | [] => by simp [toPys, PyData.shownAll_nil]
  | x :: xs => by rw [toPys, PyData.shownAll_cons, shownAll_toPys xs, tx_shown]; rfl
theorem cps_app (a b : Str) : (a ++ b).cps.toList = a.cps.toList ++ b.cps.toList := by
  show (a.cps ++ b.cps).toList = _
  simp
theorem sep_tx : ((", " : String) : Str) = tx [44, 32] := by decide +kernel
theorem rep_lst (xs : List D) : reprD (.lst xs) = [91] ++ joinT [44, 32] (xs.map reprD) ++ [93] := by
  show (PyData.list (toPys xs)).shown.cps.toList = _
  rw [PyData.shown_list, cps_app, cps_app, shownAll_toPys, sep_tx]
  have e : Str.join (tx [44, 32]) ((xs.map reprD).map tx) = tx (joinT [44, 32] (xs.map reprD)) := (TL.join_eq _ _).symm.trans (join_tx _ _)
  rw [e]
  simp [tx]
  constructor <;> decide +kernel
theorem rep_tup {xs : List D} (h : xs.length ≠ 1) : reprD (.tup xs) = [40] ++ joinT [44, 32] (xs.map reprD) ++ [41] := by
  show (PyData.tuple (toPys xs)).shown.cps.toList = _
  have l : (toPys xs).length = xs.length := by
    clear h
    induction xs with
    | nil => rfl
    | cons x xs ih => rw [toPys, List.length_cons, List.length_cons, ih]
  rw [PyData.shown_tuple, cps_app, cps_app, shownAll_toPys, sep_tx, l]
  have e : Str.join (tx [44, 32]) ((xs.map reprD).map tx) = tx (joinT [44, 32] (xs.map reprD)) := (TL.join_eq _ _).symm.trans (join_tx _ _)
  rw [e, if_neg (by simpa using h)]
  simp [tx]
  constructor <;> decide +kernel
end Ev
end
section
/-! EvS: how long repr's texts are: bounds by the shape of the data. Own work. -/
set_option linter.all false
set_option autoImplicit false
set_option maxRecDepth 100000
namespace Ev
open PySem PyProof.Rows
theorem dl_int {i : Int} {k : Nat} (hk : 0 < k) (h : i.natAbs < 10 ^ k) : (reprD (.int i)).length ≤ k + 1 := by
  have e : (reprD (.int i)).length = (toString i).toList.length := by
    show (Str.ofString (toString i)).cps.toList.length = _
    rw [signs_ofString, List.length_map]
  have q : (Nat.repr i.natAbs).toList.length ≤ k := by
    rw [String.length_toList]
    exact (Nat.length_repr_le_iff hk).2 h
  rw [e, Int.toString_eq_repr, Int.repr_eq_if]
  split
  · rw [show i.toNat = i.natAbs by omega]; omega
  · rw [show (-i).toNat = i.natAbs by omega]
    simp only [String.toList_append, List.length_append]
    have : "-".toList.length = 1 := rfl
    omega
theorem dl_str {s : Tx} (h : ∀ c ∈ s, c < 16 ^ 8) : (reprD (.str s)).length ≤ 10 * s.length + 2 := by
  have := StrLaws.reprText_len (tx s) (by simpa [tx] using h)
  have e : (reprD (.str s)).length = (reprText (tx s)).length := by
    show (reprText (tx s)).cps.toList.length = _
    simp [Str.length]
  rw [e]
  simpa [tx, Str.length] using this
mutual
/-- a bound of repr's length, where all ints have k digits at most -/
def rz (k : Nat) : D → Nat
  | .non => 4
  | .bl _ => 5
  | .int _ => k + 1
  | .str s => 10 * s.length + 2
  | .lst xs => 2 + rzs k xs
  | .tup xs => 3 + rzs k xs
  | _ => 4
def rzs (k : Nat) : List D → Nat
  | [] => 0
  | x :: xs => rz k x + 2 + rzs k xs
end
mutual
/-- ints of k digits at most, nowhere deeper than n -/
def fits (k : Nat) : Nat → D → Prop
  | _, .non => True
  | _, .bl _ => True
  | _, .int i => i.natAbs < 10 ^ k
  | _, .str s => ∀ c ∈ s, c < 1114112
  | n + 1, .lst xs => fitss k n xs
  | n + 1, .tup xs => fitss k n xs
  | _, _ => False
def fitss (k : Nat) : Nat → List D → Prop
  | _, [] => True
  | n, x :: xs => fits k n x ∧ fitss k n xs
end
theorem rep_one {x : D} : reprD (.tup [x]) = [40] ++ reprD x ++ [44, 41] := by
  show (PyData.tuple (toPys [x])).shown.cps.toList = _
  rw [PyData.shown_tuple, cps_app, cps_app, shownAll_toPys]
  have e : (toPys [x]).length = 1 := by simp [toPys]
  rw [e, List.map_cons, List.map_cons, List.map_nil, List.map_nil]
  have j : Str.join (", " : String) [tx (reprD x)] = tx (reprD x) := by
    rw [sep_tx]
    have e : Str.join (tx [44, 32]) ([reprD x].map tx) = tx (joinT [44, 32] [reprD x]) := (TL.join_eq _ _).symm.trans (join_tx _ _)
    exact e
  rw [j]
  simp [tx]
  constructor <;> decide +kernel
mutual
theorem rz_le {k : Nat} (hk : 0 < k) : ∀ (n : Nat) (d : D), fits k n d → (reprD d).length ≤ rz k d
  | _, .non, _ => by rw [rz]; decide +kernel
  | _, .bl true, _ => by rw [rz]; decide +kernel
  | _, .bl false, _ => by rw [rz]; decide +kernel
  | _, .int i, h => by rw [rz]; exact dl_int hk (by simpa only [fits] using h)
  | _, .str s, h => by
    rw [rz]
    simp only [fits] at h
    exact dl_str fun c hc => Nat.lt_trans (h c hc) (by decide)
  | n + 1, .lst xs, h => by
    rw [rz, rep_lst]
    have := rzs_le hk n xs (by simpa only [fits] using h)
    simp only [List.length_append, List.length_cons, List.length_nil]
    omega
  | n + 1, .tup xs, h => by
    rw [rz]
    have := rzs_le hk n xs (by simpa only [fits] using h)
    by_cases c : xs.length = 1
    · obtain ⟨x, rfl⟩ := List.length_eq_one_iff.1 c
      rw [rep_one]
      simp only [List.map_cons, List.map_nil, joinT, List.length_append, List.length_cons, List.length_nil] at this ⊢
      omega
    · rw [rep_tup c]
      simp only [List.length_append, List.length_cons, List.length_nil]
      omega
  | 0, .lst xs, h => by simp [fits] at h
  | 0, .tup xs, h => by simp [fits] at h
  | _, .scr _, h => by simp [fits] at h
  | _, .dic _ _, h => by simp [fits] at h
  | _, .ins _ _, h => by simp [fits] at h
theorem rzs_le {k : Nat} (hk : 0 < k) : ∀ (n : Nat) (xs : List D), fitss k n xs → (joinT [44, 32] (xs.map reprD)).length ≤ rzs k xs
  | _, [], _ => by simp [joinT]
  | n, [x], h => by
    have := rz_le hk n x (by simpa only [fitss, and_true] using h)
    simp only [List.map_cons, List.map_nil, joinT, rzs]
    omega
  | n, x :: y :: ys, h => by
    simp only [fitss] at h
    have h1 := rz_le hk n x h.1
    have h2 := rzs_le hk n (y :: ys) (by simpa only [fitss] using h.2)
    simp only [List.map_cons, joinT, rzs, List.length_append, List.length_cons, List.length_nil] at h2 ⊢
    omega
end
mutual
theorem fits_showy {k : Nat} (hk : k ≤ 570) : ∀ (n : Nat) (d : D), fits k n d → showy n d = true
  | _, .non, _ => by simp [showy]
  | _, .bl _, _ => by simp [showy]
  | _, .str _, _ => by simp [showy]
  | _, .int i, h => by
    simp only [fits] at h
    have : (10 : Nat) ^ k ≤ 10 ^ 570 := Nat.pow_le_pow_right (by decide) hk
    have : (10 : Nat) ^ 570 < 2 ^ 1900 := by decide +kernel
    unfold showy
    exact decide_eq_true (by omega)
  | n + 1, .lst xs, h => by rw [showy]; exact fitss_showys hk n xs (by simpa only [fits] using h)
  | n + 1, .tup xs, h => by rw [showy]; exact fitss_showys hk n xs (by simpa only [fits] using h)
  | 0, .lst xs, h => by simp [fits] at h
  | 0, .tup xs, h => by simp [fits] at h
  | _, .scr _, h => by simp [fits] at h
  | _, .dic _ _, h => by simp [fits] at h
  | _, .ins _ _, h => by simp [fits] at h
theorem fitss_showys {k : Nat} (hk : k ≤ 570) : ∀ (n : Nat) (xs : List D), fitss k n xs → showys n xs = true
  | _, [], _ => by simp [showys]
  | n, x :: xs, h => by
    simp only [fitss] at h
    rw [showys, fits_showy hk n x h.1, fitss_showys hk n xs h.2]
    rfl
end
mutual
theorem fits_plain {k : Nat} : ∀ (n : Nat) (d : D), fits k n d → plain n d = true
  | _, .non, _ => by simp [plain]
  | _, .bl _, _ => by simp [plain]
  | _, .str s, h => by
    simp only [fits] at h
    unfold plain
    exact List.all_eq_true.2 fun c hc => decide_eq_true (h c hc)
  | _, .int i, h => by simp [plain]
  | n + 1, .lst xs, h => by rw [plain]; exact fitss_plains n xs (by simpa only [fits] using h)
  | n + 1, .tup xs, h => by rw [plain]; exact fitss_plains n xs (by simpa only [fits] using h)
  | 0, .lst xs, h => by simp [fits] at h
  | 0, .tup xs, h => by simp [fits] at h
  | _, .scr _, h => by simp [fits] at h
  | _, .dic _ _, h => by simp [fits] at h
  | _, .ins _ _, h => by simp [fits] at h
theorem fitss_plains {k : Nat} : ∀ (n : Nat) (xs : List D), fitss k n xs → plains n xs = true
  | _, [], _ => by simp [plains]
  | n, x :: xs, h => by
    simp only [fitss] at h
    rw [plains, fits_plain n x h.1, fitss_plains n xs h.2]
    rfl
end
/-- repr of such data is let -/
theorem rok {k : Nat} {d : D} (h : fits k 20 d) (hk : 0 < k) (h2 : k ≤ 570) (hl : rz k d ≤ 4000000) : reprOk d = true := by
  unfold reprOk
  rw [fits_showy h2 20 d h, Bool.true_and]
  exact decide_eq_true (Nat.le_trans (rz_le hk 20 d h) hl)
theorem fitss_all {k n : Nat} : ∀ {xs : List D}, (∀ x ∈ xs, fits k n x) → fitss k n xs
  | [], _ => by simp [fitss]
  | x :: xs, h => by
    rw [fitss]
    exact ⟨h x List.mem_cons_self, fitss_all fun y hy => h y (List.mem_cons_of_mem _ hy)⟩
theorem rzs_all {k b : Nat} : ∀ {xs : List D}, (∀ x ∈ xs, rz k x ≤ b) → rzs k xs ≤ xs.length * (b + 2)
  | [], _ => by simp [rzs]
  | x :: xs, h => by
    have h1 := h x List.mem_cons_self
    have h2 := rzs_all fun y hy => h y (List.mem_cons_of_mem _ hy)
    rw [rzs, List.length_cons, Nat.add_mul, Nat.one_mul]
    omega
/-- == of such data is let -/
theorem fits_pl {k : Nat} {d : D} (h : fits k 20 d) : pl d = true := fits_plain 20 d h
section
variable {T : Tab} {Φ : Phi} {S : Store}
/-- repr of data with ints of k digits -/
theorem e_rep {k : Nat} {x : D} (h : fits k 20 x) (hk : 0 < k) (h2 : k ≤ 570) (hl : rz k x ≤ 4000000) : biW T Φ .repr [.d x] S = .ok (.d (.str (reprD x))) S := by
  refine e_repr ?_ (rok h hk h2 hl)
  cases x with
  | ins c vs => simp [fits] at h
  | _ => rfl
/-- .. with what is read on the right -/
theorem e_cmpR {o : COp} {x y z : D} {w : W} (h : clsOf S (.d x) = none) (hr : rd S w = some y) (hc : cmp o x y = some z) : cmpW T Φ o (.d x) w S = .ok (.d z) S := by
  have e : spec T Cl.eqf S (.d x) = none := by simp [spec, h]
  have r : rd S (.d x) = some x := rfl
  unfold cmpW
  rw [e]
  cases o <;> simp only [r, hr, hc, R.of_some, R.bind_ok]
@[simp] theorem cold_lst3 {A : Store} {a b : SO} {n : Nat} {xs : List D} (h : A.length + 2 = n) : coldAt T n (.loc n) (A ++ [a, b, .lst xs]) = .ok (.d (.lst xs)) (A ++ [a, b]) := by
  have := coldAt_lst (T := T) (A := A ++ [a, b]) (n := n) (xs := xs) (by simpa using h)
  simpa using this
@[simp] theorem cold_dic3 {A : Store} {a b : SO} {n : Nat} {ks vs : List D} (h : A.length + 2 = n) : coldAt T n (.loc n) (A ++ [a, b, .dic ks vs]) = .ok (.d (.dic ks vs)) (A ++ [a, b]) := by
  have := coldAt_dic (T := T) (A := A ++ [a, b]) (n := n) (ks := ks) (vs := vs) (by simpa using h)
  simpa using this
@[simp] theorem cold_lst2 {A : Store} {a : SO} {n : Nat} {xs : List D} (h : A.length + 1 = n) : coldAt T n (.loc n) (A ++ [a, .lst xs]) = .ok (.d (.lst xs)) (A ++ [a]) := by
  have := coldAt_lst (T := T) (A := A ++ [a]) (n := n) (xs := xs) (by simpa using h)
  simpa using this
@[simp] theorem cold_dic2 {A : Store} {a : SO} {n : Nat} {ks vs : List D} (h : A.length + 1 = n) : coldAt T n (.loc n) (A ++ [a, .dic ks vs]) = .ok (.d (.dic ks vs)) (A ++ [a]) := by
  have := coldAt_dic (T := T) (A := A ++ [a]) (n := n) (ks := ks) (vs := vs) (by simpa using h)
  simpa using this
end
/-- what asks the pot, as an equation -/
theorem Pt.eq {l : Nat} {F : Store → R W} {P : W → Prop} {S A : Store} (os : Store) (h : Pt l F P) (c : Ch l S A) : ∃ w A', F (A ++ os) = .ok w (A' ++ os) ∧ P w ∧ Ch l S A' ∧ A'.length = S.length := by
  obtain ⟨w, S', e, h1, h2⟩ := h (A ++ os) c.pot.app
  obtain ⟨A', rfl, h3⟩ := h2.cut c.pot.lt
  exact ⟨w, A', e, h1, c.trans h3, (c.trans h3).1⟩
end Ev
end
section
/-! W15m: pictures' cells: sorted, in the order of places and days. No program. Own work. -/
set_option linter.all false
set_option autoImplicit false
set_option maxRecDepth 100000
namespace Pc
open Ev
abbrev Cell := Int × Int × Nat
def ke (c : Cell) : Int × Int := (c.1, c.2.1)
def cD (c : Cell) : D := .tup [.int c.1, .int c.2.1, .str [c.2.2]]
def kD (k : Int × Int) : D := .tup [.int k.1, .int k.2]
def cs (xs : List Cell) : List D := xs.map cD
def Rng (c : Cell) : Prop := -5 ≤ c.1 ∧ c.1 ≤ 5 ∧ 0 ≤ c.2.1 ∧ c.2.1 ≤ 3 ∧ (c.2.2 = 104 ∨ c.2.2 = 97)
structure Okc (xs : List Cell) : Prop where
  rng : ∀ c ∈ xs, Rng c
  nd : xs.Pairwise fun a b => ke a ≠ ke b
  zero : ∃ c ∈ xs, c.2.1 = 0
  len : xs.length ≤ 5
theorem Okc.pos {xs : List Cell} (h : Okc xs) : 0 < xs.length := by
  obtain ⟨c, hc, -⟩ := h.zero
  exact List.length_pos_of_mem hc
/-- by place, then by day -/
def lt2 (a b : Cell) : Prop := a.1 < b.1 ∨ (a.1 = b.1 ∧ a.2.1 < b.2.1)
theorem lt2_asy {a b : Cell} (h : lt2 a b) : ¬lt2 b a := by unfold lt2 at *; omega
theorem lt2_key {a b a' b' : Cell} (h : lt2 a b) (e1 : ke a' = ke a) (e2 : ke b' = ke b) : lt2 a' b' := by
  simp only [ke, Prod.mk.injEq] at e1 e2
  unfold lt2 at *
  omega
def srt (xs : List Cell) : List Cell := isort (fun a b => ltK (srtKey (cD a)) (srtKey (cD b))) xs
theorem sort_cs (xs : List Cell) : sortD (cs xs) = cs (srt xs) := (isort_map cD (fun _ _ => rfl) xs).symm
theorem srtOk_cs (xs : List Cell) : srtOk (cs xs) = true := by
  cases xs with
  | nil => rfl
  | cons x xs =>
    have e : ∀ y : Cell, isTk [true, true, false] (cD y) = true := fun y => by
      simp [isTk, cD, comsK, comK, isL]
    show (((cD x :: xs.map cD).all isIn) || (cD x :: xs.map cD).all (isTk [true, true, false])) = true
    rw [Bool.or_eq_true]
    right
    exact List.all_eq_true.2 fun d hd => by
      rcases List.mem_cons.1 hd with rfl | hd
      · exact e _
      · obtain ⟨y, -, rfl⟩ := List.mem_map.1 hd; exact e _
theorem key_cD (a b : Cell) (h : ke a ≠ ke b) : ltK (srtKey (cD b)) (srtKey (cD a)) = false → lt2 a b := by
  obtain ⟨a1, a2, a3⟩ := a
  obtain ⟨b1, b2, b3⟩ := b
  simp only [srtKey, cD, keyK, comsK, comK, Option.bind_some, Option.map_some, Option.getD_some, ltK, ltC, Sum.inl.injEq, lt2, ke, ne_eq, Prod.mk.injEq] at *
  intro q
  by_cases e1 : b1 = a1
  · rw [if_pos e1] at q
    by_cases e2 : b2 = a2
    · exact absurd ⟨e1.symm, e2.symm⟩ h
    · rw [if_neg e2] at q
      have := of_decide_eq_false q
      omega
  · rw [if_neg e1] at q
    have := of_decide_eq_false q
    omega
theorem srt_mem {xs : List Cell} {c : Cell} : c ∈ srt xs ↔ c ∈ xs := (srt_perm _ xs).mem_iff
theorem srt_len (xs : List Cell) : (srt xs).length = xs.length := (srt_perm _ xs).length_eq
theorem srt_pw {xs : List Cell} (h : xs.Pairwise fun a b => ke a ≠ ke b) : (srt xs).Pairwise lt2 := by
  have h1 : (srt xs).Pairwise fun a b => ke a ≠ ke b := ((srt_perm _ xs).pairwise_iff fun {a b} q => Ne.symm q).2 h
  have h2 := isort_srt (swo_K fun c : Cell => srtKey (cD c)) xs
  exact (List.Pairwise.and h1 h2).imp fun {a b} ⟨q1, q2⟩ => key_cD a b q1 q2
theorem pw_nd {xs : List Cell} (h : xs.Pairwise lt2) : xs.Pairwise fun a b => ke a ≠ ke b := h.imp fun {a b} q e => by
  simp only [ke, Prod.mk.injEq] at e
  unfold lt2 at q
  omega
/-- one order of the same cells -/
theorem uniq : ∀ {xs ys : List Cell}, xs.Pairwise lt2 → ys.Pairwise lt2 → (∀ a, a ∈ xs ↔ a ∈ ys) → xs = ys
  | [], [], _, _, _ => rfl
  | [], y :: ys, _, _, h => by have := (h y).2 List.mem_cons_self; cases this
  | x :: xs, [], _, _, h => by have := (h x).1 List.mem_cons_self; cases this
  | x :: xs, y :: ys, h1, h2, h => by
    obtain ⟨p1, p2⟩ := List.pairwise_cons.1 h1
    obtain ⟨q1, q2⟩ := List.pairwise_cons.1 h2
    have irr : ∀ a : Cell, ¬lt2 a a := fun a q => lt2_asy q q
    have e : x = y := by
      rcases List.mem_cons.1 ((h x).1 List.mem_cons_self) with e | e
      · exact e
      · rcases List.mem_cons.1 ((h y).2 List.mem_cons_self) with e' | e'
        · exact e'.symm
        · exact absurd (p1 y e') (lt2_asy (q1 x e))
    subst e
    refine congrArg _ (uniq p2 q2 fun a => ⟨fun m => ?_, fun m => ?_⟩)
    · rcases List.mem_cons.1 ((h a).1 (List.mem_cons_of_mem _ m)) with e | e
      · subst e; exact absurd (p1 _ m) (irr _)
      · exact e
    · rcases List.mem_cons.1 ((h a).2 (List.mem_cons_of_mem _ m)) with e | e
      · subst e; exact absurd (q1 _ m) (irr _)
      · exact e
theorem srt_is {xs ys : List Cell} (h : ys.Pairwise fun a b => ke a ≠ ke b) (h1 : xs.Pairwise lt2) (h2 : ∀ a, a ∈ xs ↔ a ∈ ys) : srt ys = xs :=
  uniq (srt_pw h) h1 fun a => srt_mem.trans (h2 a).symm
theorem srt_ok {xs : List Cell} (h : Okc xs) : Okc (srt xs) :=
  ⟨fun c hc => h.rng c (srt_mem.1 hc), pw_nd (srt_pw h.nd), by obtain ⟨c, hc, e⟩ := h.zero; exact ⟨c, srt_mem.2 hc, e⟩, by rw [srt_len]; exact h.len⟩
theorem srt_srt {xs : List Cell} (h : Okc xs) : srt (srt xs) = srt xs := srt_is (srt_ok h).nd (srt_pw h.nd) fun _ => Iff.rfl
/-- the contrary -/
def co (n : Nat) : Nat := if n = 104 then 97 else 104
def coC (c : Cell) : Cell := (c.1, c.2.1, co c.2.2)
theorem coco {c : Cell} (h : Rng c) : coC (coC c) = c := by
  obtain ⟨a, b, m⟩ := c
  simp only [Rng] at h
  rcases h.2.2.2.2 with e | e <;> subst e <;> rfl
theorem co_ne (n : Nat) (h : n = 104 ∨ n = 97) : co n ≠ n := by rcases h with rfl | rfl <;> decide
theorem co_pw {xs : List Cell} (h : xs.Pairwise lt2) : (xs.map coC).Pairwise lt2 := List.pairwise_map.2 (h.imp fun q => lt2_key q rfl rfl)
theorem co_ok {xs : List Cell} (h : Okc xs) : Okc (xs.map coC) := by
  refine ⟨fun c hc => ?_, List.pairwise_map.2 (h.nd.imp fun q => q), ?_, by simpa using h.len⟩
  · obtain ⟨d, hd, rfl⟩ := List.mem_map.1 hc
    have := h.rng d hd
    simp only [Rng, coC, co] at *
    split <;> omega
  · obtain ⟨c, hc, e⟩ := h.zero
    exact ⟨coC c, List.mem_map_of_mem hc, e⟩
theorem srt_co {xs : List Cell} (h : Okc xs) : srt (xs.map coC) = (srt xs).map coC := by
  refine srt_is (co_ok h).nd (co_pw (srt_pw h.nd)) fun a => ?_
  simp only [List.mem_map, srt_mem]
theorem srt_co2 {xs : List Cell} (h : Okc xs) : srt ((srt xs).map coC) = (srt xs).map coC := by rw [srt_co (srt_ok h), srt_srt h]
theorem map_coco {xs : List Cell} (h : ∀ c ∈ xs, Rng c) : (xs.map coC).map coC = xs := by
  rw [List.map_map]
  conv => rhs; rw [← List.map_id xs]
  exact List.map_congr_left fun c hc => coco (h c hc)
theorem co_unlike {xs : List Cell} (h : ∀ c ∈ xs, Rng c) (h0 : 0 < xs.length) : xs.map coC ≠ xs := by
  cases xs with
  | nil => cases h0
  | cons x xs =>
    intro e
    rw [List.map_cons, List.cons.injEq] at e
    have := congrArg (fun c : Cell => c.2.2) e.1
    exact co_ne _ (h x List.mem_cons_self).2.2.2.2 this
/-- backwards -/
theorem rev_ok {xs : List Cell} (h : Okc xs) : Okc xs.reverse :=
  ⟨fun c hc => h.rng c (List.mem_reverse.1 hc), List.pairwise_reverse.2 (h.nd.imp fun q => Ne.symm q), by obtain ⟨c, hc, e⟩ := h.zero; exact ⟨c, List.mem_reverse.2 hc, e⟩, by simpa using h.len⟩
theorem srt_rev {xs : List Cell} (h : Okc xs) : srt xs.reverse = srt xs := srt_is (rev_ok h).nd (srt_pw h.nd) fun a => by simp [srt_mem]
/-- laid out by trying each place and each day -/
def grid : List (Int × Int) := [-5, -4, -3, -2, -1, 0, 1, 2, 3, 4, 5].flatMap fun a : Int => [(a, 0), (a, 1), (a, 2), (a, 3)]
def ord (xs : List Cell) : List Cell := grid.flatMap fun g => xs.filter fun c => decide (ke c = g)
theorem nd_filter {xs : List Cell} (h : xs.Pairwise fun a b => ke a ≠ ke b) (g : Int × Int) : (xs.filter fun c => decide (ke c = g)).length ≤ 1 := by
  induction xs with
  | nil => simp
  | cons x xs ih =>
    obtain ⟨h1, h2⟩ := List.pairwise_cons.1 h
    rw [List.filter_cons]
    split
    · rename_i e
      have e := of_decide_eq_true e
      rw [List.filter_eq_nil_iff.2 fun c hc => by
        have := h1 c hc
        simp only [decide_eq_true_eq]
        exact fun e2 => this (e.trans e2.symm)]
      simp
    · exact ih h2
theorem grid_mem {c : Cell} (h : Rng c) : ke c ∈ grid := by
  obtain ⟨a, b, m⟩ := c
  simp only [Rng] at h
  simp only [ke, grid, List.mem_flatMap]
  refine ⟨a, ?_, ?_⟩
  · simp; omega
  · simp; omega
theorem grid_pw : grid.Pairwise fun a b => a.1 < b.1 ∨ (a.1 = b.1 ∧ a.2 < b.2) := by decide +kernel
theorem ord_pw {xs : List Cell} (h : xs.Pairwise fun a b => ke a ≠ ke b) : ∀ gs : List (Int × Int), gs.Pairwise (fun a b => a.1 < b.1 ∨ (a.1 = b.1 ∧ a.2 < b.2)) → (gs.flatMap fun g => xs.filter fun c => decide (ke c = g)).Pairwise lt2
  | [], _ => by simp
  | g :: gs, hg => by
    obtain ⟨h1, h2⟩ := List.pairwise_cons.1 hg
    rw [List.flatMap_cons, List.pairwise_append]
    refine ⟨?_, ord_pw h gs h2, fun a ha b hb => ?_⟩
    · have := nd_filter h g
      generalize xs.filter (fun c => decide (ke c = g)) = l at this
      cases l with
      | nil => simp
      | cons a l =>
        cases l with
        | nil => simp
        | cons _ _ => simp at this
    · obtain ⟨-, e1⟩ := List.mem_filter.1 ha
      obtain ⟨g', hg', hb⟩ := List.mem_flatMap.1 hb
      obtain ⟨-, e2⟩ := List.mem_filter.1 hb
      have e1 := of_decide_eq_true e1
      have e2 := of_decide_eq_true e2
      have := h1 g' hg'
      rw [← e1, ← e2] at this
      exact this
theorem ord_srt {xs : List Cell} (h : Okc xs) : ord xs = srt xs := by
  refine (srt_is h.nd (ord_pw h.nd grid grid_pw) fun a => ?_).symm
  simp only [List.mem_flatMap, List.mem_filter, decide_eq_true_eq]
  exact ⟨fun ⟨_, _, h1, _⟩ => h1, fun h1 => ⟨_, grid_mem (h.rng a h1), h1, rfl⟩⟩
/-- what is compared -/
theorem eqv_cD (a b : Cell) : eqv (cD a) (cD b) = decide (a = b) := by
  obtain ⟨a1, a2, a3⟩ := a
  obtain ⟨b1, b2, b3⟩ := b
  simp only [cD, eqv, eqvs]
  rw [Bool.eq_iff_iff]
  simp
theorem eqvs_cs : ∀ (xs ys : List Cell), eqvs (cs xs) (cs ys) = decide (xs = ys)
  | [], [] => by simp [cs, eqvs]
  | [], y :: ys => by simp [cs, eqvs]
  | x :: xs, [] => by simp [cs, eqvs]
  | x :: xs, y :: ys => by
    have := eqvs_cs xs ys
    simp only [cs, List.map_cons, eqvs, eqv_cD] at *
    rw [this, Bool.eq_iff_iff]
    simp
theorem eqv_kD (a b : Int × Int) : eqv (kD a) (kD b) = decide (a = b) := by
  obtain ⟨a1, a2⟩ := a
  obtain ⟨b1, b2⟩ := b
  simp only [kD, eqv, eqvs]
  rw [Bool.eq_iff_iff]
  simp
theorem fits_cD {c : Cell} (h : Rng c) {n : Nat} : fits 3 (n + 1) (cD c) := by
  obtain ⟨a, b, m⟩ := c
  simp only [Rng] at h
  simp only [cD, fits, fitss, List.mem_cons, List.not_mem_nil, or_false, forall_eq, and_true]
  omega
theorem fits_cs {xs : List Cell} (h : ∀ c ∈ xs, Rng c) {n : Nat} : fitss 3 (n + 1) (cs xs) := fitss_all fun d hd => by
  obtain ⟨c, hc, rfl⟩ := List.mem_map.1 hd
  exact fits_cD (h c hc)
theorem rz_cs (xs : List Cell) : rzs 3 (cs xs) ≤ xs.length * 40 := by
  have := rzs_all (k := 3) (b := 38) (xs := cs xs) fun d hd => by
    obtain ⟨c, hc, rfl⟩ := List.mem_map.1 hd
    simp [rz, rzs, cD]
  simpa [cs] using this
theorem cmp_cs {xs ys : List Cell} (hx : ∀ c ∈ xs, Rng c) (hy : ∀ c ∈ ys, Rng c) : cmp .eq (.tup (cs xs)) (.tup (cs ys)) = some (.bl (decide (xs = ys))) := by
  have e1 : pl (.tup (cs xs)) = true := fits_pl (k := 3) (by rw [fits]; exact fits_cs hx)
  have e2 : pl (.tup (cs ys)) = true := fits_pl (k := 3) (by rw [fits]; exact fits_cs hy)
  show (if pl (.tup (cs xs)) && pl (.tup (cs ys)) then some (D.bl (eqv (.tup (cs xs)) (.tup (cs ys)))) else none) = _
  rw [e1, e2, eqv, eqvs_cs]
  rfl
theorem plain_kD (k : Int × Int) {n : Nat} : plain (n + 1) (kD k) = true := by simp [kD, plain, plains]
theorem any_kD (k : Int × Int) : ∀ ks : List (Int × Int), ((ks.map kD).any fun y => eqv y (kD k)) = decide (k ∈ ks)
  | [] => by simp
  | x :: ks => by
    rw [List.map_cons, List.any_cons, any_kD k ks, eqv_kD]
    by_cases h1 : x = k
    · subst h1; simp
    · have h2 : ¬k = x := fun e => h1 e.symm
      by_cases h3 : k ∈ ks <;> simp only [h1, h2, h3, List.mem_cons, decide_true, decide_false, or_true, or_false, false_or, Bool.or_true, Bool.or_false, Bool.or_self]
theorem pl_kD {ks : List (Int × Int)} : pl (.lst (ks.map kD)) = true := by
  show plains 19 _ = true
  exact plains_all fun d hd => by
    obtain ⟨k, -, rfl⟩ := List.mem_map.1 hd
    exact plain_kD k
theorem in_kD {k : Int × Int} {ks : List (Int × Int)} : cmp .in_ (kD k) (.lst (ks.map kD)) = some (.bl (decide (k ∈ ks))) := by
  have e1 : pl (kD k) = true := plain_kD k
  show (if pl (kD k) && pl (.lst (ks.map kD)) then some (D.bl ((ks.map kD).any fun y => eqv y (kD k))) else none) = _
  rw [e1, pl_kD, any_kD]
  rfl
theorem notIn_kD {k : Int × Int} {ks : List (Int × Int)} : cmp .notIn (kD k) (.lst (ks.map kD)) = some (.bl (!decide (k ∈ ks))) := by
  have e1 : pl (kD k) = true := plain_kD k
  show (if pl (kD k) && pl (.lst (ks.map kD)) then some (D.bl (!(ks.map kD).any fun y => eqv y (kD k))) else none) = _
  rw [e1, pl_kD, any_kD]
  rfl
theorem eq_kD {a b : Int × Int} : cmp .eq (kD a) (kD b) = some (.bl (decide (a = b))) := by
  have e1 : pl (kD a) = true := plain_kD a
  have e2 : pl (kD b) = true := plain_kD b
  show (if pl (kD a) && pl (kD b) then some (D.bl (eqv (kD a) (kD b))) else none) = _
  rw [e1, e2, eqv_kD]
  rfl
/-! ### cells put in, changed, left out -/
theorem ins_perm (xs : List Cell) (c : Cell) (n : Nat) : (xs.take n ++ c :: xs.drop n).Perm (c :: xs) := by
  have h := List.perm_middle (a := c) (l₁ := xs.take n) (l₂ := xs.drop n)
  rw [List.take_append_drop] at h
  exact h
theorem Okc.ins {xs : List Cell} {c : Cell} {n : Nat} (h : Okc xs) (hc : Rng c) (hn : ke c ∉ xs.map ke) (hl : xs.length < 5) : Okc (xs.take n ++ c :: xs.drop n) := by
  have p := ins_perm xs c n
  refine ⟨fun d hd => ?_, ?_, ?_, by rw [p.length_eq, List.length_cons]; omega⟩
  · rcases List.mem_cons.1 (p.mem_iff.1 hd) with rfl | m
    · exact hc
    · exact h.rng d m
  · refine (p.pairwise_iff fun {a b} q => Ne.symm q).2 (List.pairwise_cons.2 ⟨fun d hd e => hn (List.mem_map.2 ⟨d, hd, e.symm⟩), h.nd⟩)
  · obtain ⟨d, hd, e⟩ := h.zero
    exact ⟨d, p.mem_iff.2 (List.mem_cons_of_mem _ hd), e⟩
theorem Okc.one {c : Cell} (hc : Rng c) (h0 : c.2.1 = 0) : Okc [c] :=
  ⟨fun d hd => by rw [List.mem_singleton] at hd; exact hd ▸ hc, List.pairwise_singleton _ _, ⟨c, by simp, h0⟩, by simp⟩
theorem nd_uniq : ∀ {xs : List Cell}, xs.Pairwise (fun a b => ke a ≠ ke b) → ∀ {a b : Cell}, a ∈ xs → b ∈ xs → ke a = ke b → a = b
  | [], _, a, b, ha, _, _ => by cases ha
  | x :: xs, h, a, b, ha, hb, e => by
    obtain ⟨h1, h2⟩ := List.pairwise_cons.1 h
    rcases List.mem_cons.1 ha with ea | ha
    · rcases List.mem_cons.1 hb with eb | hb
      · rw [ea, eb]
      · rw [ea] at e; exact absurd e (h1 b hb)
    · rcases List.mem_cons.1 hb with eb | hb
      · rw [eb] at e; exact absurd e.symm (h1 a ha)
      · exact nd_uniq h2 ha hb e
theorem at_split {xs : List Cell} {n : Nat} (h : n < xs.length) : xs = xs.take n ++ xs[n] :: xs.drop (n + 1) := by
  rw [← List.drop_eq_getElem_cons h, List.take_append_drop]
section
variable {p q : List Cell} {x : Cell} {n : Int}
theorem mid_perm (p q : List Cell) (x : Cell) : (p ++ x :: q).Perm (x :: (p ++ q)) := List.perm_middle
theorem nd_mid (h : (p ++ x :: q).Pairwise fun a b => ke a ≠ ke b) : (p ++ q).Pairwise (fun a b => ke a ≠ ke b) ∧ ∀ d ∈ p ++ q, ke x ≠ ke d := by
  have := ((mid_perm p q x).pairwise_iff fun {a b : Cell} (q : ke a ≠ ke b) => Ne.symm q).1 h
  obtain ⟨h1, h2⟩ := List.pairwise_cons.1 this
  exact ⟨h2, h1⟩
theorem bent2 {c : Cell} (h : Okc (p ++ x :: q)) (hc : Rng c) (e : c.2.1 = x.2.1) (hn : ke c ∉ (p ++ x :: q).map ke) : Okc (p ++ c :: q) ∧ srt (p ++ c :: q) ≠ srt (p ++ x :: q) := by
  have m : ∀ c a : Cell, a ∈ p ++ c :: q ↔ a ∈ c :: (p ++ q) := fun c a => (mid_perm p q c).mem_iff
  obtain ⟨h1, h2⟩ := nd_mid h.nd
  refine ⟨⟨fun d hd => ?_, ?_, ?_, by have := h.len; simp at this ⊢; omega⟩, fun e2 => ?_⟩
  · rcases List.mem_cons.1 ((m c _).1 hd) with rfl | hd
    · exact hc
    · exact h.rng d ((m x _).2 (List.mem_cons_of_mem _ hd))
  · refine ((mid_perm p q c).pairwise_iff fun {a b : Cell} (q : ke a ≠ ke b) => Ne.symm q).2 (List.pairwise_cons.2 ⟨fun d hd e => ?_, h1⟩)
    exact hn (List.mem_map.2 ⟨d, (m x _).2 (List.mem_cons_of_mem _ hd), e.symm⟩)
  · obtain ⟨d, hd, e0⟩ := h.zero
    rcases List.mem_cons.1 ((m x _).1 hd) with rfl | hd
    · exact ⟨c, (m c _).2 List.mem_cons_self, by omega⟩
    · exact ⟨d, (m c _).2 (List.mem_cons_of_mem _ hd), e0⟩
  · have : c ∈ srt (p ++ c :: q) := srt_mem.2 ((m c _).2 List.mem_cons_self)
    rw [e2, srt_mem] at this
    exact hn (List.mem_map_of_mem this)
theorem bent0 (h : Okc (p ++ x :: q)) : Okc (p ++ coC x :: q) ∧ srt (p ++ coC x :: q) ≠ srt (p ++ x :: q) := by
  have m : ∀ c a : Cell, a ∈ p ++ c :: q ↔ a ∈ c :: (p ++ q) := fun c a => (mid_perm p q c).mem_iff
  obtain ⟨h1, h2⟩ := nd_mid h.nd
  have hx := h.rng x ((m x _).2 List.mem_cons_self)
  have hc : Rng (coC x) := by
    simp only [Rng, coC, co] at *
    split <;> omega
  refine ⟨⟨fun d hd => ?_, ?_, ?_, by have := h.len; simp at this ⊢; omega⟩, fun e2 => ?_⟩
  · rcases List.mem_cons.1 ((m _ _).1 hd) with rfl | hd
    · exact hc
    · exact h.rng d ((m x _).2 (List.mem_cons_of_mem _ hd))
  · exact ((mid_perm p q (coC x)).pairwise_iff fun {a b : Cell} (q : ke a ≠ ke b) => Ne.symm q).2 (List.pairwise_cons.2 ⟨fun d hd e => h2 d hd e, h1⟩)
  · obtain ⟨d, hd, e0⟩ := h.zero
    rcases List.mem_cons.1 ((m x _).1 hd) with rfl | hd
    · exact ⟨coC d, (m _ _).2 List.mem_cons_self, e0⟩
    · exact ⟨d, (m _ _).2 (List.mem_cons_of_mem _ hd), e0⟩
  · have : coC x ∈ srt (p ++ coC x :: q) := srt_mem.2 ((m _ _).2 List.mem_cons_self)
    rw [e2, srt_mem] at this
    have := nd_uniq h.nd this ((m x _).2 List.mem_cons_self) rfl
    exact co_ne _ hx.2.2.2.2 (congrArg (fun c : Cell => c.2.2) this)
theorem bent1 (h : Okc (p ++ x :: q)) (hz : (0 : Int) ∈ (p ++ q).map fun c => c.2.1) : Okc (p ++ q) ∧ srt (p ++ q) ≠ srt (p ++ x :: q) := by
  have m : ∀ c a : Cell, a ∈ p ++ c :: q ↔ a ∈ c :: (p ++ q) := fun c a => (mid_perm p q c).mem_iff
  obtain ⟨h1, h2⟩ := nd_mid h.nd
  refine ⟨⟨fun d hd => h.rng d ((m x _).2 (List.mem_cons_of_mem _ hd)), h1, ?_, by have := h.len; simp at this ⊢; omega⟩, fun e2 => ?_⟩
  · obtain ⟨d, hd, e⟩ := List.mem_map.1 hz
    exact ⟨d, hd, e⟩
  · have := congrArg List.length e2
    rw [srt_len, srt_len] at this
    simp at this
theorem cut_p (h : n = (p.length : Int)) : Ev.cut (cs (p ++ x :: q)) none (some n) = cs p := by
  subst h
  rw [cut_to (by omega)]
  simp [cs]
theorem cut_q (h : n = (p.length : Int)) : Ev.cut (cs (p ++ x :: q)) (some (n + 1)) none = cs q := by
  subst h
  rw [cut_from (by omega), show ((p.length : Int) + 1).toNat = p.length + 1 by omega]
  unfold cs
  rw [← List.map_drop, List.drop_append, List.drop_of_length_le (Nat.le_succ _)]
  simp
theorem at_p (h : n = (p.length : Int)) : item (.lst (cs (p ++ x :: q))) (.int n) = some (cD x) := by
  subst h
  show atI (cs (p ++ x :: q)) _ = _
  rw [c_atd (by omega) (by simp [cs]; omega)]
  simp [cs, List.getD]
end
theorem flat_le {α : Type} {f : α → List Cell} {b : Nat} (h : ∀ x, (f x).length ≤ b) : ∀ l : List α, (l.flatMap f).length ≤ b * l.length
  | [] => by simp
  | x :: l => by
    have := h x
    have := flat_le h l
    rw [List.flatMap_cons, List.length_append, List.length_cons, Nat.mul_add]
    omega
def row (xs : List Cell) (a : Int) : List Cell := ([0, 1, 2, 3] : List Int).flatMap fun b => xs.filter fun c => decide (ke c = (a, b))
theorem ord_rows (xs : List Cell) : ord xs = ([-5, -4, -3, -2, -1, 0, 1, 2, 3, 4, 5] : List Int).flatMap (row xs) := by
  unfold ord grid
  rw [List.flatMap_assoc]
  rfl
end Pc
end
section
set_option linter.all false
set_option maxRecDepth 100000
set_option maxHeartbeats 4000000
namespace K51
open Ev
theorem f (n g : Nat) (ws : List W) (S : Store) (x : Fn) (h : T.fns[g]? = some x) (hl : ws.length = x.np) : callD T (n + 1) g ws S = fin S.length (evSs T (callD T n) S.length x.body (Ev.start x.nl ws) S) := by
  show (match T.fns[g]? with
    | some f => if ws.length = f.np then fin S.length (evSs T (callD T n) S.length f.body (Ev.start f.nl ws) S) else .bad
    | none => .bad) = _
  rw [h]
  simp [hl]
variable {k : Nat} {Φ : Phi}
theorem draw {n l : Nat} {k : Int} {S : Store} (hp : PotAt l S) (h1 : 0 < k) (h2 : k < 18446744073709551616) : ∃ d S', callD T (n + 1) 13 [.loc l, .d (.int k)] S = .ok (.d (.int d)) S' ∧ 0 ≤ d ∧ d < k ∧ Ch l S S' := by
  rw [f n 13 _ S _ rfl rfl]
  have hl := hp.lt
  obtain ⟨a, b, he, ha, hb, hb2⟩ := hp
  have hr := rd_l he
  by_cases c : 0 < a
  · refine ⟨a % k, S.set l (.lst [.int (a / k), .int b]), ?_, Int.emod_nonneg _ (by omega), Int.emod_lt_of_pos _ h1, Ch.set hl (Int.ediv_nonneg ha (by omega)) hb hb2⟩
    simp (disch := omega) [-getElem?_pos, b13, Ev.start, he, hr]
  · have e1 := Int.emod_nonneg (b * 48271 + 12043) (show (2147483587 : Int) ≠ 0 by decide)
    have e2 := Int.emod_lt_of_pos (b * 48271 + 12043) (show (0 : Int) < 2147483587 by decide)
    refine ⟨((b * 48271 + 12043) % 2147483587 * ((b * 48271 + 12043) % 2147483587)) % 2147483549 / 13 % k, S.set l (.lst [.int a, .int ((b * 48271 + 12043) % 2147483587)]), ?_, Int.emod_nonneg _ (show k ≠ 0 by omega), Int.emod_lt_of_pos _ h1, Ch.set hl ha e1 (by omega)⟩
    have hr2 : rd (S.set l (.lst [.int a, .int ((b * 48271 + 12043) % 2147483587)])) (.loc l) = some (.lst [.int a, .int ((b * 48271 + 12043) % 2147483587)]) := rd_l (by simp [hl])
    simp (disch := omega) [-getElem?_pos, b13, Ev.start, he, hr, hr2]
theorem p_draw {l : Nat} {j : Int} (h : Dp T (k + 1) Φ) (h1 : 0 < j) (h2 : j < 18446744073709551616) : Pt l (fun S => Φ 13 [.loc l, .d (.int j)] S) fun w => ∃ d : Int, w = .d (.int d) ∧ 0 ≤ d ∧ d < j := fun S hp => by
  obtain ⟨n, rfl⟩ := h
  obtain ⟨d, S', e, q1, q2, c⟩ := draw (n := n + k) hp h1 h2
  exact ⟨_, S', e, ⟨d, rfl, q1, q2⟩, c⟩
theorem p_pot {ns : List Int} {i : Int} {S : Store} (h : Dp T (k + 1) Φ) (hn : ns.length ≤ 63) (h0 : 0 ≤ i) (h1 : i < 1000) : ∃ w S', Φ 2 [.d (.scr ns), .d (.int i)] S = .ok w S' ∧ ∃ a b : Int, w = .loc S.length ∧ S' = S ++ [.lst [.int a, .int b]] ∧ 0 ≤ a ∧ 0 ≤ b ∧ b < 4294967296 := wp_get fun K hK => by
  obtain ⟨Ψ, h, e⟩ := h.step
  rw [e 2 _ _ _ rfl rfl]
  simp only [b2, Ev.start, List.map_cons, List.map_nil, List.length_cons, List.length_nil, Nat.reduceAdd, Nat.reduceSub, List.reduceReplicate, List.replicate_zero, List.cons_append, List.nil_append]
  by_cases c : i < ns.length
  · simp -implicitDefEqProofs (disch := (first | omega | (simp only [List.length_append, List.length_cons, List.length_nil, List.length_map, List.length_set] <;> omega) | fail)) [-getElem?_pos, fresh]
    exact hK _ _ ⟨_, _, rfl, rfl, by first | omega | (split <;> omega), by omega, by omega⟩
  · simp -implicitDefEqProofs (disch := (first | omega | (simp only [List.length_append, List.length_cons, List.length_nil, List.length_map, List.length_set] <;> omega) | fail)) [-getElem?_pos, fresh]
    exact hK _ _ ⟨_, _, rfl, rfl, by first | omega | (split <;> omega), by omega, by omega⟩
theorem pot {ns : List Int} {i : Int} {n : Nat} {S : Store} (hn : ns.length ≤ 63) (h0 : 0 ≤ i) (h1 : i < 1000) : ∃ a b : Int, callD T (n + 1) 2 [.d (.scr ns), .d (.int i)] S = .ok (.loc S.length) (S ++ [.lst [.int a, .int b]]) ∧ 0 ≤ a ∧ 0 ≤ b ∧ b < 4294967296 := by
  obtain ⟨w, S', e, a, b, rfl, rfl, h⟩ := p_pot (k := 0) (S := S) (Φ := callD T (n + 1)) ⟨n, rfl⟩ hn h0 h1
  exact ⟨a, b, e, h⟩
theorem p_int {i : Int} {S : Store} (h : Dp T (k + 1) Φ) : Φ 20 [.d (.int i)] S = .ok (.d (.bl true)) S := wp_is fun K hK => by
  obtain ⟨Ψ, h, e⟩ := h.step
  rw [e 20 _ _ _ rfl rfl]
  simp only [b20, Ev.start, List.map_cons, List.map_nil, List.length_cons, List.length_nil, Nat.reduceAdd, Nat.reduceSub, List.reduceReplicate, List.replicate_zero, List.cons_append, List.nil_append]
  simp -implicitDefEqProofs (disch := (first | omega | (simp only [List.length_append, List.length_cons, List.length_nil, List.length_map, List.length_set] <;> omega) | fail)) [-getElem?_pos, tagW, tagD, isK]
  exact hK
end K51
end
section
set_option linter.all false
set_option maxRecDepth 100000
set_option maxHeartbeats 4000000
namespace K51
open Ev Pc
variable {k : Nat} {Φ : Phi} {S : Store}
theorem clsP : T.cls[0]? = some ⟨12, [0], [(0, .fld 0), (1, .prop 8), (2, .prop 15)], [(4, 7)], [0], some 9, some 11, some 10, none⟩ := rfl
/-- a picture of cells in order -/
def pcD (xs : List Cell) : D := .ins 0 [.tup (cs xs)]
/-! ### cells -/
theorem p_mark {m : Nat} (h : Dp T (k + 1) Φ) (hm : m = 104 ∨ m = 97) : Φ 22 [.d (.str [m])] S = .ok (.d (.bl true)) S := wp_is fun K hK => by
  obtain ⟨Ψ, h, e⟩ := h.step
  have g : T.glob[0]? = some (.dic [.str [104], .str [97]] [.str [97], .str [104]]) := rfl
  have c : cmp .in_ (.str [m]) (.dic [.str [104], .str [97]] [.str [97], .str [104]]) = some (.bl true) := by rcases hm with rfl | rfl <;> rfl
  rw [e 22 _ _ _ rfl rfl]
  simp only [b22, Ev.start, List.map_cons, List.map_nil, List.length_cons, List.length_nil, Nat.reduceAdd, Nat.reduceSub, List.reduceReplicate, List.replicate_zero, List.cons_append, List.nil_append]
  simp -implicitDefEqProofs (disch := (first | omega | (simp only [List.length_append, List.length_cons, List.length_nil, List.length_map, List.length_set] <;> omega) | fail)) [-getElem?_pos, tagW, tagD, isK, g, c]
  exact hK
theorem p_count {i : Int} (h : Dp T (k + 2) Φ) (hi : 0 ≤ i) : Φ 21 [.d (.int i)] S = .ok (.d (.bl true)) S := wp_is fun K hK => by
  obtain ⟨Ψ, h, e⟩ := h.step
  have q : decide (0 ≤ i) = true := decide_eq_true hi
  rw [e 21 _ _ _ rfl rfl]
  simp only [b21, Ev.start, List.map_cons, List.map_nil, List.length_cons, List.length_nil, Nat.reduceAdd, Nat.reduceSub, List.reduceReplicate, List.replicate_zero, List.cons_append, List.nil_append]
  simp -implicitDefEqProofs (disch := (first | omega | (simp only [List.length_append, List.length_cons, List.length_nil, List.length_map, List.length_set] <;> omega) | fail)) [-getElem?_pos, p_int h, q]
  exact hK
theorem p_cell {c : Cell} (h : Dp T (k + 3) Φ) (hc : Rng c) : Φ 19 [.d (cD c)] S = .ok (.d (.bl true)) S := wp_is fun K hK => by
  obtain ⟨Ψ, h, e⟩ := h.step
  obtain ⟨a, b, m⟩ := c
  simp only [Rng] at hc
  obtain ⟨h1, h2, h3, h4, h5⟩ := hc
  have gF : T.glob[2]? = some (.int 5) := rfl
  have gL : T.glob[3]? = some (.int 3) := rfl
  have ab : bi .abs [.int a] = some (.int (if a < 0 then -a else a)) := rfl
  have a5 : (if a < 0 then -a else a) ≤ 5 := by split <;> omega
  generalize (if a < 0 then -a else a) = av at *
  have q1 : decide (5 < av) = false := decide_eq_false (by omega)
  have q2 : decide (b ≤ 3) = true := decide_eq_true h4
  rw [e 19 _ _ _ rfl rfl]
  simp only [b19, Ev.start, List.map_cons, List.map_nil, List.length_cons, List.length_nil, Nat.reduceAdd, Nat.reduceSub, List.reduceReplicate, List.replicate_zero, List.cons_append, List.nil_append]
  simp -implicitDefEqProofs (disch := (first | omega | (simp only [List.length_append, List.length_cons, List.length_nil, List.length_map, List.length_set] <;> omega) | fail)) [-getElem?_pos, tagW, tagD, isK, cD, p_int (k := k + 1) h, p_count (k := k) h h3, p_mark (k := k + 1) h h5, gF, gL, ab, q1, q2]
  exact hK
theorem cut2 {c : Cell} : slice (cD c) none (some 2) = some (kD (ke c)) := rfl
/-- cells as a list, a tuple or a list of the store -/
def Sq (S : Store) (w : W) (xs : List Cell) : Prop := w = .d (.lst (cs xs)) ∨ w = .d (.tup (cs xs)) ∨ ∃ k, w = .loc k ∧ S[k]? = some (.lst (cs xs))
theorem Sq.app {w : W} {xs : List Cell} {os : Store} (h : Sq S w xs) : Sq (S ++ os) w xs := by
  rcases h with h | h | ⟨k, h, e⟩
  · exact .inl h
  · exact .inr (.inl h)
  · exact .inr (.inr ⟨k, h, by rw [List.getElem?_append_left (by have := (List.getElem?_eq_some_iff.1 e).1; omega)]; exact e⟩)
theorem Sq.rd {w : W} {xs : List Cell} (h : Sq S w xs) : rd S w = some (.lst (cs xs)) ∨ rd S w = some (.tup (cs xs)) := by
  rcases h with rfl | rfl | ⟨k, rfl, e⟩
  · exact .inl rfl
  · exact .inr rfl
  · left
    rw [rd_loc, e]
    rfl
theorem ge_cs {xs : List Cell} {j : Nat} {d : D} (h : (cs xs)[j]? = some d) : ∃ c, xs[j]? = some c ∧ d = cD c := by
  simp only [cs, List.getElem?_map, Option.map_eq_some_iff] at h
  obtain ⟨c, h1, h2⟩ := h
  exact ⟨c, h1, h2.symm⟩
theorem p_want {xs : List Cell} {w : W} (h : Dp T (k + 4) Φ) (O : Okc xs) (hw : Sq S w xs) : Φ 17 [w] S = .ok (.d .non) S := wp_is fun K hK => by
  obtain ⟨Ψ, h, e⟩ := h.step
  have pos := O.pos
  have len := O.len
  have isl : ∀ Z, Sq Z w xs → Ψ 18 [w] Z = .ok (.d (.bl true)) Z := fun Z hz => wp_is fun K hK => by
    obtain ⟨X, h, e⟩ := h.step
    rw [e 18 _ _ _ rfl rfl]
    simp only [b18, Ev.start, List.map_cons, List.map_nil, List.length_cons, List.length_nil, Nat.reduceAdd, Nat.reduceSub, List.reduceReplicate, List.replicate_zero, List.cons_append, List.nil_append]
    rcases hz with rfl | rfl | ⟨k, rfl, e⟩
    · simp -implicitDefEqProofs (disch := (first | omega | (simp only [List.length_append, List.length_cons, List.length_nil, List.length_map, List.length_set] <;> omega) | fail)) [-getElem?_pos, tagW, tagD, isK]; exact hK
    · simp -implicitDefEqProofs (disch := (first | omega | (simp only [List.length_append, List.length_cons, List.length_nil, List.length_map, List.length_set] <;> omega) | fail)) [-getElem?_pos, tagW, tagD, isK]; exact hK
    · simp -implicitDefEqProofs (disch := (first | omega | (simp only [List.length_append, List.length_cons, List.length_nil, List.length_map, List.length_set] <;> omega) | fail)) [-getElem?_pos, tagW, tagD, isK, e]; exact hK
  have bl : ∀ Z, Sq Z w xs → biW T Ψ .len [w] Z = .ok (.d (.int (xs.length : Nat))) Z := fun Z hz => by
    have l : (cs xs).length = xs.length := List.length_map _
    rw [biWb_len]
    simp only [rds, Option.bind_some]
    rcases hz.rd with q | q
    · rw [q]
      have : bi .len [.lst (cs xs)] = some (.int ((cs xs).length : Nat)) := rfl
      simp [this, l]
    · rw [q]
      have : bi .len [.tup (cs xs)] = some (.int ((cs xs).length : Nat)) := rfl
      simp [this, l]
  have gM : T.glob[1]? = some (.int 5) := rfl
  have q0 : xs ≠ [] := List.length_pos_iff.1 pos
  have q5 : decide ((5 : Int) < (xs.length : Int)) = false := decide_eq_false (by omega)
  rw [e 17 _ _ _ rfl rfl]
  simp only [b17, Ev.start, List.map_cons, List.map_nil, List.length_cons, List.length_nil, Nat.reduceAdd, Nat.reduceSub, List.reduceReplicate, List.replicate_zero, List.cons_append, List.nil_append]
  simp -implicitDefEqProofs (disch := (first | omega | (simp only [List.length_append, List.length_cons, List.length_nil, List.length_map, List.length_set] <;> omega) | fail)) [-getElem?_pos, isl S hw, bl S hw, q0, fresh]
  refine wp_loopA (w := w) (xs := cs xs) (Z1 := S ++ [.lst []]) (fun j e Z => ∃ q2 q3 : Option D, e = [some w, some (.loc S.length), q2.map .d, q3.map .d, none, none] ∧ Z = S ++ [.lst (((xs.take j).map ke).map kD)]) ?_ ?_ ⟨none, none, rfl, by simp⟩ ?_ ?_
  · simp
  · rcases hw with rfl | rfl | ⟨k, rfl, e⟩
    · exact .inl rfl
    · exact .inr (.inl rfl)
    · have hk := (List.getElem?_eq_some_iff.1 e).1
      exact .inr (.inr ⟨k, rfl, hk, fun j env Z ⟨_, _, _, hZ⟩ => by rw [hZ, List.getElem?_append_left hk]; exact e⟩)
  · rintro j x hx env Z ⟨q2, q3, rfl, rfl⟩
    obtain ⟨c, hc, rfl⟩ := ge_cs hx
    have hj := (List.getElem?_eq_some_iff.1 hc).1
    have pc := p_cell (S := S ++ [.lst (((xs.take j).map ke).map kD)]) h (O.rng c (List.mem_of_getElem? hc))
    refine ⟨[some w, some (.loc S.length), some (.d (.int (j : Nat))), some (.d (cD c)), none, none], by simp [bindN, bindNs], fun K hK => ?_⟩
    have ni : ke c ∉ (xs.take j).map ke := fun m => by
      obtain ⟨d, hd, e⟩ := List.mem_map.1 m
      obtain ⟨i, hi, hi2⟩ := List.getElem_of_mem hd
      rw [List.length_take] at hi
      rw [List.getElem_take] at hi2
      have hcj : xs[j] = c := (List.getElem?_eq_some_iff.1 hc).2
      have := List.pairwise_iff_getElem.1 O.nd i j (by omega) hj (by omega)
      rw [hi2, hcj] at this
      exact this e
    have kin := in_kD (k := ke c) (ks := (xs.take j).map ke)
    have tk : ((xs.take (j + 1)).map ke).map kD = ((xs.take j).map ke).map kD ++ [kD (ke c)] := by
      rw [List.take_succ, hc]
      simp
    have tl : (((xs.take j).map ke).map kD).length < 4000000 := by simp; omega
    rw [decide_eq_false ni] at kin
    have hK := hK _ _ ⟨some (.int (j : Nat)), some (cD c), rfl, rfl⟩
    rw [tk] at hK
    have kin := e_cmpR (T := T) (Φ := Ψ) (S := S ++ [.lst (((xs.take j).map ke).map kD)]) (w := .loc S.length) rfl (by simp) kin
    generalize ((xs.take j).map ke).map kD = ks at *
    simp -implicitDefEqProofs (disch := (first | omega | (simp only [List.length_append, List.length_cons, List.length_nil, List.length_map, List.length_set] <;> omega) | fail)) [-getElem?_pos, pc, cut2, kin]
    exact hK.1
  · rintro env Z ⟨q2, q3, rfl, rfl⟩
    rw [show (cs xs).length = xs.length by simp [cs], List.take_length]
    have cm : ∀ Z : Store, evE T Ψ cm17_0 [some w, some (.d (.lst ((xs.map ke).map kD))), q2.map .d, q3.map .d, none, none] Z = .ok (.d (.lst ((xs.map ke).map fun k => .int k.2))) Z := fun Z => cmpr_map_at (c := kD) (fun k => .int k.2) (by simp [items]) (by simp; omega) fun x hx acc => by
      obtain ⟨a, b⟩ := x
      exact ⟨[some w, some (.d (.lst ((xs.map ke).map kD))), q2.map .d, q3.map .d, some (.d (.int a)), some (.d (.int b))], by simp [bindN, bindNs, kD, wipe], by simp⟩
    have ni := notIn_ints (d := 0) (xs := (xs.map ke).map fun k => k.2)
    have z0 : (0 : Int) ∈ (xs.map ke).map fun k => k.2 := by
      obtain ⟨c, hc, e⟩ := O.zero
      exact List.mem_map.2 ⟨ke c, List.mem_map_of_mem hc, e⟩
    rw [decide_eq_true z0] at ni
    rw [List.map_map (f := fun k : Int × Int => k.2) (g := D.int)] at ni
    have ni : cmp .notIn (.int 0) (.lst ((xs.map ke).map fun k => .int k.2)) = some (.bl false) := ni
    generalize (xs.map ke).map kD = ks at *
    generalize ((xs.map ke).map fun k => D.int k.2) = ds at *
    have lw : low S.length (some w) = true := by
      rcases hw with rfl | rfl | ⟨k, rfl, e⟩
      · rfl
      · rfl
      · exact decide_eq_true (List.getElem?_eq_some_iff.1 e).1
    have l2 : ∀ q : Option D, low S.length (q.map W.d) = true := fun q => by cases q <;> rfl
    simp -implicitDefEqProofs (disch := (first | omega | (simp only [List.length_append, List.length_cons, List.length_nil, List.length_map, List.length_set] <;> omega) | fail)) [-getElem?_pos, cm, ni, bl S hw, gM, q5, lw, l2]
    exact hK
/-! ### pictures made -/
theorem p_pinit {xs : List Cell} {w : W} {n : Nat} (h : Dp T (k + 5) Φ) (O : Okc xs) (hw : Sq S w xs) (hn : S.length = n) : Φ 12 [.loc n, w] (S ++ [.ins 0 []]) = .ok (.d .non) (S ++ [.ins 0 [(0, .tup (cs (srt xs)))]]) := wp_is fun K hK => by
  obtain ⟨Ψ, h, e⟩ := h.step
  subst hn
  have pw := p_want (S := S ++ [.ins 0 []]) h O hw.app
  have bs : biW T Ψ .sorted [w] (S ++ [.ins 0 []]) = .ok (.d (.lst (cs (srt xs)))) (S ++ [.ins 0 []]) := by
    have hl : (cs xs).length ≤ lim := by have := O.len; simp [cs, lim]; omega
    have b1 : bi .sorted [.lst (cs xs)] = some (.lst (sortD (cs xs))) := if_pos ⟨srtOk_cs xs, hl⟩
    have b2 : bi .sorted [.tup (cs xs)] = some (.lst (sortD (cs xs))) := if_pos ⟨srtOk_cs xs, hl⟩
    rw [sort_cs] at b1 b2
    have e : biW T Ψ .sorted [w] (S ++ [.ins 0 []]) = (R.of ((rds (S ++ [.ins 0 []]) [w]).bind (bi .sorted)) (S ++ [.ins 0 []])).bind fun z S => .ok (.d z) S := by cases w <;> rfl
    rw [e]
    simp only [rds, Option.bind_some]
    rcases hw.app (os := [.ins 0 []]) |>.rd with q | q
    · rw [q]; simp [b1]
    · rw [q]; simp [b2]
  have tu : bi .tuple [.lst (cs (srt xs))] = some (.tup (cs (srt xs))) := rfl
  rw [e 12 _ _ _ rfl rfl]
  simp only [b12, Ev.start, List.map_cons, List.map_nil, List.length_cons, List.length_nil, Nat.reduceAdd, Nat.reduceSub, List.reduceReplicate, List.replicate_zero, List.cons_append, List.nil_append]
  simp -implicitDefEqProofs (disch := (first | omega | (simp only [List.length_append, List.length_cons, List.length_nil, List.length_map, List.length_set] <;> omega) | fail)) [-getElem?_pos, pw, bs, tu, clsP, sattOk, setF]
  exact hK
theorem p_pinit2 {xs : List Cell} {w : W} {n : Nat} {o : SO} (h : Dp T (k + 5) Φ) (O : Okc xs) (hw : Sq (S ++ [o]) w xs) (hn : S.length + 1 = n) : Φ 12 [.loc n, w] (S ++ [o, .ins 0 []]) = .ok (.d .non) (S ++ [o, .ins 0 [(0, .tup (cs (srt xs)))]]) := by
  have := p_pinit (n := n) h O hw (by simpa using hn)
  simpa using this
theorem f_pic {xs : List Cell} {n : Nat} (hn : S.length = n) : coldAt T n (.loc n) (S ++ [.ins 0 [(0, .tup (cs xs))]]) = .ok (.d (pcD xs)) S := by
  subst hn
  rw [coldAt_loc (o := .ins 0 [(0, .tup (cs xs))]) (x := pcD xs) rfl (by simp) (by simp) rfl]
  simp
theorem f_pic2 {xs : List Cell} {n : Nat} {o : SO} (hn : S.length + 1 = n) : coldAt T n (.loc n) (S ++ [o, .ins 0 [(0, .tup (cs xs))]]) = .ok (.d (pcD xs)) (S ++ [o]) := by
  have := f_pic (xs := xs) (S := S ++ [o]) (n := n) (by simpa using hn)
  simpa using this
theorem a_own {xs : List Cell} : attR T Φ (.d (pcD xs)) 0 S = .ok (.d (.tup (cs xs))) S := by
  simp [attR, clsOf, pcD, clsP, List.lookup]
theorem a_cells {xs : List Cell} (h : Dp T (k + 1) Φ) : attR T Φ (.d (pcD xs)) 1 S = .ok (.d (.tup (cs xs))) S := by
  obtain ⟨Ψ, h, e⟩ := h.step
  have q : Φ 8 [.d (pcD xs)] S = .ok (.d (.tup (cs xs))) S := by
    rw [e 8 _ _ _ rfl rfl]
    simp [b8, Ev.start, attR, clsOf, pcD, clsP, List.lookup]
  unfold attR
  simp only [clsOf, pcD, clsP, Option.bind_some, List.lookup]
  show (Φ 8 [.d (pcD xs)] S).noex = _
  rw [q]
  rfl
def spL (xs : List Cell) : D := .lst (xs.map fun c => .int c.2.1)
theorem sp_some {xs : List Cell} (h : ∀ c ∈ xs, Rng c) (h0 : 0 < xs.length) : ∃ v : Int, bi .max1 [spL xs] = some (.int v) ∧ 0 ≤ v ∧ v ≤ 3 := by
  have e : intsOf (xs.map fun c => D.int c.2.1) = some (xs.map fun c => c.2.1) := by
    clear h h0
    induction xs with
    | nil => rfl
    | cons x xs ih => simp only [List.map_cons, intsOf, ih]; rfl
  obtain ⟨v, hv⟩ : ∃ v, maxL (xs.map fun c => c.2.1) = some v := by
    cases xs with
    | nil => cases h0
    | cons x xs => exact ⟨_, rfl⟩
  obtain ⟨m, -⟩ := maxL_of hv
  obtain ⟨c, hc, rfl⟩ := List.mem_map.1 m
  have := h c hc
  refine ⟨_, ?_, this.2.2.1, this.2.2.2.1⟩
  show ((intsOf (xs.map fun c => D.int c.2.1)).bind fun ns => (maxL ns).map D.int) = _
  rw [e]
  simp [hv]
theorem a_span {xs : List Cell} {v : Int} (h : Dp T (k + 1) Φ) (hl : xs.length ≤ 5) (hv : bi .max1 [spL xs] = some (.int v)) : attR T Φ (.d (pcD xs)) 2 S = .ok (.d (.int v)) S := by
  obtain ⟨Ψ, h, e⟩ := h.step
  have q : Φ 15 [.d (pcD xs)] S = .ok (.d (.int v)) S := wp_is fun K hK => by
    have cm : evE T Ψ cm15_0 [some (.d (pcD xs)), none, none, none] S = .ok (.d (spL xs)) S := cmpr_map_at (c := cD) (fun c => .int c.2.1) (by simp [a_own, items, cs]) (by omega) fun x hx acc => by
      obtain ⟨a, b, m⟩ := x
      exact ⟨[some (.d (pcD xs)), some (.d (.int a)), some (.d (.int b)), some (.d (.str [m]))], by simp [bindN, bindNs, cD, wipe], by simp⟩
    rw [e 15 _ _ _ rfl rfl]
    simp only [b15, Ev.start, List.map_cons, List.map_nil, List.length_cons, List.length_nil, Nat.reduceAdd, Nat.reduceSub, List.reduceReplicate, List.replicate_zero, List.cons_append, List.nil_append]
    simp -implicitDefEqProofs (disch := (first | omega | (simp only [List.length_append, List.length_cons, List.length_nil, List.length_map, List.length_set] <;> omega) | fail)) [-getElem?_pos, cm, hv]
    exact hK
  unfold attR
  simp only [clsOf, pcD, clsP, Option.bind_some, List.lookup]
  show (Φ 15 [.d (pcD xs)] S).noex = _
  rw [q]
  rfl
theorem p_conof {m : Nat} (h : Dp T (k + 1) Φ) (hm : m = 104 ∨ m = 97) : Φ 16 [.d (.str [m])] S = .ok (.d (.str [co m])) S := wp_is fun K hK => by
  obtain ⟨Ψ, h, e⟩ := h.step
  have cm : evE T Ψ cm16_0 [some (.d (.str [m])), none] S = .ok (.d (.lst ([m].map fun m => .str [co m]))) S := cmpr_map_at (c := fun x => .str [x]) (fun m => .str [co m]) (by simp [items, chars]) (by simp) fun x hx acc => by
    simp only [List.mem_singleton] at hx
    subst hx
    refine ⟨[some (.d (.str [x])), some (.d (.str [x]))], by simp [bindN, wipe], ?_⟩
    have g : T.glob[0]? = some (.dic [.str [104], .str [97]] [.str [97], .str [104]]) := rfl
    rcases hm with rfl | rfl <;> simp [g, co, lookD_str] <;> rfl
  have jo : bm .join (.str []) [.lst [.str [co m]]] = some (.str [co m]) := rfl
  rw [e 16 _ _ _ rfl rfl]
  simp only [b16, Ev.start, List.map_cons, List.map_nil, List.length_cons, List.length_nil, Nat.reduceAdd, Nat.reduceSub, List.reduceReplicate, List.replicate_zero, List.cons_append, List.nil_append]
  simp -implicitDefEqProofs (disch := (first | omega | (simp only [List.length_append, List.length_cons, List.length_nil, List.length_map, List.length_set] <;> omega) | fail)) [-getElem?_pos, cm, jo]
  exact hK
theorem p_pcon {xs : List Cell} (h : Dp T (k + 6) Φ) (O : Okc xs) (P : xs.Pairwise lt2) : Φ 7 [.d (pcD xs)] S = .ok (.d (pcD (xs.map coC))) S := wp_is fun K hK => by
  obtain ⟨Ψ, h, e⟩ := h.step
  have len := O.len
  have cm : evE T Ψ cm7_0 [some (.d (pcD xs)), none, none, none] S = .ok (.d (.lst (cs (xs.map coC)))) S := by
    have := cmpr_map_at (T := T) (Φ := Ψ) (elt := match cm7_0 with | .cmpr _ e _ _ _ _ => e | e => e) (tg := .tup [.name 1, .name 2, .name 3]) (it := .seq (.att (.var 0) 0)) (own := [1, 2, 3]) (env := [some (.d (pcD xs)), none, none, none]) (S := S) (S1 := S) (ys := xs) (c := cD) (fun c => cD (coC c)) (by simp [a_own, items, cs]) (by omega) fun x hx acc => by
      have hm := (O.rng x hx).2.2.2.2
      obtain ⟨a, b, m⟩ := x
      have pc := p_conof (k := k + 4) (S := S ++ [.hid acc]) h hm
      exact ⟨[some (.d (pcD xs)), some (.d (.int a)), some (.d (.int b)), some (.d (.str [m]))], by simp [bindN, bindNs, cD, wipe], by simp [cm7_0, pc, cD, coC]⟩
    rw [show cs (xs.map coC) = xs.map fun c => cD (coC c) by unfold cs; rw [List.map_map]; rfl]
    exact this
  have O2 := co_ok O
  have s2 : srt (xs.map coC) = xs.map coC := srt_is O2.nd (co_pw P) fun _ => Iff.rfl
  have pi := p_pinit (S := S) (n := S.length) (k := k) h O2 (.inl rfl) rfl
  rw [s2] at pi
  have fp := f_pic (S := S) (n := S.length) (xs := xs.map coC) rfl
  generalize cs (xs.map coC) = ds at *
  rw [e 7 _ _ _ rfl rfl]
  simp only [b7, Ev.start, List.map_cons, List.map_nil, List.length_cons, List.length_nil, Nat.reduceAdd, Nat.reduceSub, List.reduceReplicate, List.replicate_zero, List.cons_append, List.nil_append]
  simp -implicitDefEqProofs (disch := (first | omega | (simp only [List.length_append, List.length_cons, List.length_nil, List.length_map, List.length_set] <;> omega) | fail)) [-getElem?_pos, cm, clsP, pi, fp]
  exact hK
theorem p_peq {xs ys : List Cell} (h : Dp T (k + 1) Φ) (hx : ∀ c ∈ xs, Rng c) (hy : ∀ c ∈ ys, Rng c) : Φ 9 [.d (pcD xs), .d (pcD ys)] S = .ok (.d (.bl (decide (xs = ys)))) S := wp_is fun K hK => by
  obtain ⟨Ψ, h, e⟩ := h.step
  have cc := e_cmp (T := T) (Φ := Ψ) (S := S) rfl (cmp_cs hx hy)
  have a1 := a_own (Φ := Ψ) (S := S) (xs := xs)
  have a2 := a_own (Φ := Ψ) (S := S) (xs := ys)
  have tg : tagW T S (.d (pcD ys)) = some (.cls 0) := by simp [tagW, tagD, tagC, pcD, clsP]
  generalize pcD xs = x at *
  generalize pcD ys = y at *
  have ik : isK T (.cls 0) (.cls 0) = true := by decide
  rw [e 9 _ _ _ rfl rfl]
  simp only [b9, Ev.start, List.map_cons, List.map_nil, List.length_cons, List.length_nil, Nat.reduceAdd, Nat.reduceSub, List.reduceReplicate, List.replicate_zero, List.cons_append, List.nil_append]
  simp -implicitDefEqProofs (disch := (first | omega | (simp only [List.length_append, List.length_cons, List.length_nil, List.length_map, List.length_set] <;> omega) | fail)) [-getElem?_pos, tg, ik, a1, a2, cc]
  exact hK
theorem c_peq {xs ys : List Cell} (h : Dp T (k + 1) Φ) (hx : ∀ c ∈ xs, Rng c) (hy : ∀ c ∈ ys, Rng c) : cmpW T Φ .eq (.d (pcD xs)) (.d (pcD ys)) S = .ok (.d (.bl (decide (xs = ys)))) S ∧ cmpW T Φ .ne (.d (pcD xs)) (.d (pcD ys)) S = .ok (.d (.bl (!decide (xs = ys)))) S := by
  have q := cmpW_own (T := T) (Φ := Φ) (o := .eq) (c := 0) (g := 9) (vs := [.tup (cs xs)]) (y := .d (pcD ys)) (S := S) clsP rfl (.cls 0) rfl
  have e2 : Φ 9 [.d (.ins 0 [.tup (cs xs)]), .d (pcD ys)] S = .ok (.d (.bl (decide (xs = ys)))) S := p_peq h hx hy
  rw [e2] at q
  exact ⟨q.1, q.2⟩
/-- other values -/
theorem c_peqO {xs : List Cell} {y : D} {t : Tag} (h : Dp T (k + 1) Φ) (ht : tagD T y = some t) (hn : isK T t (.cls 0) = false) : cmpW T Φ .eq (.d (pcD xs)) (.d y) S = .ok (.d (.bl false)) S := by
  have q := cmpW_own (T := T) (Φ := Φ) (o := .eq) (c := 0) (g := 9) (vs := [.tup (cs xs)]) (y := .d y) (S := S) clsP rfl t ht
  have e2 : Φ 9 [.d (.ins 0 [.tup (cs xs)]), .d y] S = .ok (.d (.bl false)) S := wp_is fun K hK => by
    obtain ⟨Ψ, h, e⟩ := h.step
    have tg : tagW T S (.d y) = some t := ht
    rw [e 9 _ _ _ rfl rfl]
    simp only [b9, Ev.start, List.map_cons, List.map_nil, List.length_cons, List.length_nil, Nat.reduceAdd, Nat.reduceSub, List.reduceReplicate, List.replicate_zero, List.cons_append, List.nil_append]
    simp -implicitDefEqProofs (disch := (first | omega | (simp only [List.length_append, List.length_cons, List.length_nil, List.length_map, List.length_set] <;> omega) | fail)) [-getElem?_pos, tg, hn]
    exact hK
  rw [e2] at q
  exact q.1
/-! ### as texts -/
theorem si_nat {i : Int} (h : -5 ≤ i ∧ i ≤ 5) : i.natAbs < 2 ^ 1900 := Nat.lt_trans (show i.natAbs < 2 ^ 3 by omega) (Nat.pow_lt_pow_right (by decide) (by decide))
theorem si_len {i : Int} (h : -5 ≤ i ∧ i ≤ 5) : (strI i).length ≤ 2 := by
  have : i = -5 ∨ i = -4 ∨ i = -3 ∨ i = -2 ∨ i = -1 ∨ i = 0 ∨ i = 1 ∨ i = 2 ∨ i = 3 ∨ i = 4 ∨ i = 5 := by omega
  rcases this with rfl | rfl | rfl | rfl | rfl | rfl | rfl | rfl | rfl | rfl | rfl <;> decide +kernel
def ctx (c : Cell) : Tx := strI c.1 ++ [64] ++ strI c.2.1 ++ [61] ++ [c.2.2]
def ctxs (xs : List Cell) : Tx := joinT [32] (xs.map ctx)
theorem ctx_len {c : Cell} (h : Rng c) : (ctx c).length ≤ 7 := by
  obtain ⟨a, b, m⟩ := c
  simp only [Rng] at h
  have h1 := si_len (i := a) (by omega)
  have h2 := si_len (i := b) (by omega)
  simp only [ctx, List.length_append, List.length_cons, List.length_nil]
  omega
theorem ctx_join {xs : List Cell} (h : ∀ c ∈ xs, Rng c) (hl : xs.length ≤ 5) : bm .join (.str [32]) [.lst (xs.map fun c => .str (ctx c))] = some (.str (ctxs xs)) := by
  refine bm_join (sep := [32]) (ts := xs.map ctx) ?_ ?_
  · clear h hl
    induction xs with
    | nil => rfl
    | cons x xs ih => simp only [List.map_cons, txsOf, ih]; rfl
  · have : ((xs.map ctx).map (·.length)).sum ≤ 7 * xs.length := by
      clear hl
      induction xs with
      | nil => simp
      | cons x xs ih =>
        have := ctx_len (h x List.mem_cons_self)
        have := ih fun c hc => h c (List.mem_cons_of_mem _ hc)
        simp only [List.map_cons, List.sum_cons, List.length_cons]
        omega
    simp only [List.length_map, List.length_cons, List.length_nil]
    omega
theorem fmt_i {i : Int} (h : -5 ≤ i ∧ i ≤ 5) : fmtD (.int i) = some (.str (strI i)) := if_pos (si_nat h)
theorem p_pstr {xs : List Cell} (h : Dp T (k + 1) Φ) (hx : ∀ c ∈ xs, Rng c) (hl : xs.length ≤ 5) : biW T Φ .str [.d (pcD xs)] S = .ok (.d (.str (ctxs xs))) S := by
  have e2 : Φ 11 [.d (pcD xs)] S = .ok (.d (.str (ctxs xs))) S := wp_is fun K hK => by
    obtain ⟨Ψ, h, e⟩ := h.step
    have cm : evE T Ψ cm11_0 [some (.d (pcD xs)), none, none, none] S = .ok (.d (.lst (xs.map fun c => .str (ctx c)))) S := cmpr_map_at (c := cD) (fun c => .str (ctx c)) (by simp [a_own, items, cs]) (by omega) fun x hm acc => by
      have r := hx x hm
      obtain ⟨a, b, m⟩ := x
      simp only [Rng] at r
      have f1 := fmt_i (i := a) (by omega)
      have f2 := fmt_i (i := b) (by omega)
      have l1 := si_len (i := a) (by omega)
      have l2 := si_len (i := b) (by omega)
      have f3 : fmtD (.str [m]) = some (.str [m]) := rfl
      refine ⟨[some (.d (pcD xs)), some (.d (.int a)), some (.d (.int b)), some (.d (.str [m]))], by simp [bindN, bindNs, cD, wipe], ?_⟩
      simp only [ctx]
      generalize strI a = t1 at *
      generalize strI b = t2 at *
      simp (disch := (simp only [List.length_append, List.length_cons, List.length_nil] <;> omega)) [f1, f2, f3]
      rw [if_pos (by omega), if_pos (by omega), if_pos (by omega), if_pos (by omega), if_pos (by omega)]
      rfl
    have jo := ctx_join hx hl
    rw [e 11 _ _ _ rfl rfl]
    simp only [b11, Ev.start, List.map_cons, List.map_nil, List.length_cons, List.length_nil, Nat.reduceAdd, Nat.reduceSub, List.reduceReplicate, List.replicate_zero, List.cons_append, List.nil_append]
    simp -implicitDefEqProofs (disch := (first | omega | (simp only [List.length_append, List.length_cons, List.length_nil, List.length_map, List.length_set] <;> omega) | fail)) [-getElem?_pos, cm, jo]
    exact hK
  have q := Ev.str_own (T := T) (Φ := Φ) (c := 0) (g := 11) (vs := [.tup (cs xs)]) (S := S) clsP rfl
  have e3 : Φ 11 [.d (.ins 0 [.tup (cs xs)])] S = .ok (.d (.str (ctxs xs))) S := e2
  rw [e3] at q
  exact q
theorem rp_cs {xs : List Cell} (h : ∀ c ∈ xs, Rng c) (hl : xs.length ≤ 5) : reprOk (.lst (cs xs)) = true ∧ (reprD (.lst (cs xs))).length ≤ 300 := by
  have f : fits 3 20 (.lst (cs xs)) := by rw [fits]; exact fits_cs h
  have r := rz_cs xs
  have z : rz 3 (.lst (cs xs)) ≤ 300 := by rw [rz]; omega
  exact ⟨rok f (by decide) (by decide) (by omega), Nat.le_trans (rz_le (by decide) 20 _ f) z⟩
def pcR (xs : List Cell) : Tx := [80, 105, 99, 116, 117, 114, 101, 40] ++ reprD (.lst (cs xs)) ++ [41]
theorem p_prepr {xs : List Cell} (h : Dp T (k + 1) Φ) (hx : ∀ c ∈ xs, Rng c) (hl : xs.length ≤ 5) : biW T Φ .repr [.d (pcD xs)] S = .ok (.d (.str (pcR xs))) S := by
  have e2 : Φ 10 [.d (pcD xs)] S = .ok (.d (.str (pcR xs))) S := wp_is fun K hK => by
    obtain ⟨Ψ, h, e⟩ := h.step
    obtain ⟨r1, r2⟩ := rp_cs hx hl
    have li : bi .list [.tup (cs xs)] = some (.lst (cs xs)) := rfl
    have fm : fmrD (.lst (cs xs)) = some (.str (reprD (.lst (cs xs)))) := if_pos r1
    have a1 := a_own (Φ := Ψ) (S := S) (xs := xs)
    unfold pcR at hK
    generalize pcD xs = x at *
    generalize reprD (.lst (cs xs)) = t at *
    rw [e 10 _ _ _ rfl rfl]
    simp only [b10, Ev.start, List.map_cons, List.map_nil, List.length_cons, List.length_nil, Nat.reduceAdd, Nat.reduceSub, List.reduceReplicate, List.replicate_zero, List.cons_append, List.nil_append]
    simp -implicitDefEqProofs (disch := (first | omega | (simp only [List.length_append, List.length_cons, List.length_nil, List.length_map, List.length_set] <;> omega) | fail)) [-getElem?_pos, a1, li, fm]
    exact hK
  have q := Ev.repr_own (T := T) (Φ := Φ) (c := 0) (g := 10) (vs := [.tup (cs xs)]) (S := S) clsP rfl
  have e3 : Φ 10 [.d (.ins 0 [.tup (cs xs)])] S = .ok (.d (.str (pcR xs))) S := e2
  rw [e3] at q
  exact q
end K51
end
section
set_option linter.all false
set_option maxRecDepth 100000
set_option maxHeartbeats 4000000
namespace K51
open Ev Pc
variable {k : Nat} {Φ : Phi} {S : Store}
theorem p_other {m : Nat} (h : Dp T (k + 1) Φ) (hm : m = 104 ∨ m = 97) : Φ 6 [.d (.str [m])] S = .ok (.d (.str [co m])) S := wp_is fun K hK => by
  obtain ⟨Ψ, h, e⟩ := h.step
  rw [e 6 _ _ _ rfl rfl]
  simp only [b6, Ev.start, List.map_cons, List.map_nil, List.length_cons, List.length_nil, Nat.reduceAdd, Nat.reduceSub, List.reduceReplicate, List.replicate_zero, List.cons_append, List.nil_append]
  rcases hm with rfl | rfl
  · have c : cmp .eq (.str [104]) (.str [104]) = some (.bl true) := rfl
    simp -implicitDefEqProofs (disch := (first | omega | (simp only [List.length_append, List.length_cons, List.length_nil, List.length_map, List.length_set] <;> omega) | fail)) [-getElem?_pos, c]
    exact hK
  · have c : cmp .eq (.str [97]) (.str [104]) = some (.bl false) := rfl
    simp -implicitDefEqProofs (disch := (first | omega | (simp only [List.length_append, List.length_cons, List.length_nil, List.length_map, List.length_set] <;> omega) | fail)) [-getElem?_pos, c]
    exact hK
theorem mutL_ins {xs : List D} {y : D} {i : Int} (h : xs.length < 4000000) (h0 : 0 ≤ i) (h1 : i < 4000000) : mutL .insert xs [.int i, y] = some (.non, xs.take i.toNat ++ [y] ++ xs.drop i.toNat) := if_pos ⟨h, h0, by omega⟩
theorem ha_at {d : Int} (h0 : 0 ≤ d) (h1 : d < 2) : ∃ m, (m = 104 ∨ m = 97) ∧ item (.str [104, 97]) (.int d) = some (.str [m]) := by
  have : d = 0 ∨ d = 1 := by omega
  rcases this with rfl | rfl
  · exact ⟨104, .inl rfl, rfl⟩
  · exact ⟨97, .inr rfl, rfl⟩
theorem p_some {l : Nat} (h : Dp T (k + 2) Φ) : Po l (fun S => Φ 3 [.loc l] S) fun o => ∃ xs, o = .lst (cs xs) ∧ Okc xs := Po.mk' fun S hp K hK => by
  obtain ⟨Ψ, h, e⟩ := h.step
  have c := Ch.rfl hp
  have cl := c.1
  rw [e 3 _ _ _ rfl rfl]
  simp only [b3, Ev.start, List.map_cons, List.map_nil, List.length_cons, List.length_nil, Nat.reduceAdd, Nat.reduceSub, List.reduceReplicate, List.replicate_zero, List.cons_append, List.nil_append]
  simp -implicitDefEqProofs (disch := (first | omega | (simp only [List.length_append, List.length_cons, List.length_nil, List.length_map, List.length_set] <;> omega) | fail)) [-getElem?_pos]
  refine (p_draw h (by decide) (by decide)).w0 c ?_
  rintro _ A1 ⟨d1, rfl, d10, d11⟩ c cl1
  simp -implicitDefEqProofs (disch := (first | omega | (simp only [List.length_append, List.length_cons, List.length_nil, List.length_map, List.length_set] <;> omega) | fail)) [-getElem?_pos, cl1]
  refine (p_draw h (by decide) (by decide)).w0 c ?_
  rintro _ A2 ⟨d2, rfl, d20, d21⟩ c cl2
  obtain ⟨m, hm, e2⟩ := ha_at d20 d21
  simp -implicitDefEqProofs (disch := (first | omega | (simp only [List.length_append, List.length_cons, List.length_nil, List.length_map, List.length_set] <;> omega) | fail)) [-getElem?_pos, cl2, e2, fresh]
  obtain ⟨w3, A3, e3, ⟨d3, rfl, d30, d31⟩, c, cl3⟩ := Pt.eq [.lst [cD (d1 - 5, 0, m)]] (p_draw (j := 5) h (by decide) (by decide)) c
  have e4 : A2 ++ [SO.lst [.tup [.int (d1 - 5), .int 0, .str [m]]]] = A2 ++ [.lst (cs [(d1 - 5, 0, m)])] := rfl
  refine wp_loopN (Z1 := A3 ++ [.lst (cs [(d1 - 5, 0, m)])]) (xs := intRange 0 d3) (fun j e Z => ∃ (xs : List Cell) (A : Store) (q2 q3 : Option D), e = [some (.loc l), some (.loc S.length), q2.map .d, q3.map .d, none] ∧ Z = A ++ [.lst (cs xs)] ∧ Ch l S A ∧ Okc xs ∧ xs.length ≤ j + 1) ?_ ⟨[(d1 - 5, 0, m)], A3, none, none, rfl, rfl, c, Okc.one (by simp only [Rng]; omega) rfl, by simp⟩ ?_ ?_
  · exact rng1_small e3 (by omega) (by omega)
  · rintro j x hx env Z ⟨xs, A, q2, q3, rfl, rfl, c, O, hl⟩
    have hj := (List.getElem?_eq_some_iff.1 hx).1
    rw [intRange_length] at hj
    refine ⟨[some (.loc l), some (.loc S.length), some (.d x), q3.map .d, none], by simp [bindN], fun K hK => ?_⟩
    have cl := c.1
    simp -implicitDefEqProofs (disch := (first | omega | (simp only [List.length_append, List.length_cons, List.length_nil, List.length_map, List.length_set] <;> omega) | fail)) [-getElem?_pos, cl]
    refine (p_draw h (by decide) (by decide)).w c ?_
    rintro _ A4 ⟨d4, rfl, d40, d41⟩ c cl4
    simp -implicitDefEqProofs (disch := (first | omega | (simp only [List.length_append, List.length_cons, List.length_nil, List.length_map, List.length_set] <;> omega) | fail)) [-getElem?_pos, cl4]
    refine (p_draw h (by decide) (by decide)).w c ?_
    rintro _ A5 ⟨d5, rfl, d50, d51⟩ c cl5
    simp -implicitDefEqProofs (disch := (first | omega | (simp only [List.length_append, List.length_cons, List.length_nil, List.length_map, List.length_set] <;> omega) | fail)) [-getElem?_pos, cl5]
    refine (p_draw h (by decide) (by decide)).w c ?_
    rintro _ A6 ⟨d6, rfl, d60, d61⟩ c cl6
    obtain ⟨m2, hm2, e6⟩ := ha_at d60 d61
    obtain ⟨y, ey⟩ : ∃ y : Cell, y = (d4 - 5, d5, m2) := ⟨_, rfl⟩
    have ry : Rng y := by rw [ey]; simp only [Rng]; omega
    have et : D.tup [.int (d4 - 5), .int d5, .str [m2]] = cD y := by rw [ey]; rfl
    have cm : evE T Ψ cm3_0 [some (.loc l), some (.loc S.length), some (.d x), some (.d (cD y)), none] (A6 ++ [.lst (cs xs)]) = .ok (.d (.lst ((xs.map ke).map kD))) (A6 ++ [.lst (cs xs)]) := by
      have := cmprL_map (T := T) (Φ := Ψ) (elt := match cm3_0 with | .cmprL _ e _ _ _ _ => e | e => e) (tg := .name 4) (a := .var 1) (own := [4]) (env := [some (.loc l), some (.loc S.length), some (.d x), some (.d (cD y)), none]) (S := A6 ++ [.lst (cs xs)]) (S1 := A6 ++ [.lst (cs xs)]) (k := S.length) (ys := xs) (c := cD) (fun c => kD (ke c)) (by simp) (by simp [cl6]; rfl) (by have := O.len; omega) fun z hz acc => by
        refine ⟨[some (.loc l), some (.loc S.length), some (.d x), some (.d (cD y)), some (.d (cD z))], by simp [bindN, wipe], ?_⟩
        simp [cm3_0, cut2]
      rw [List.map_map]
      exact this
    have ni := notIn_kD (k := ke y) (ks := xs.map ke)
    generalize (xs.map ke).map kD = ks at *
    generalize hy : decide (ke y ∈ xs.map ke) = b at ni
    have ni := e_cmp (T := T) (Φ := Ψ) (S := A6 ++ [.lst (cs xs)]) rfl ni
    simp -implicitDefEqProofs (disch := (first | omega | (simp only [List.length_append, List.length_cons, List.length_nil, List.length_map, List.length_set] <;> omega) | fail)) [-getElem?_pos, cl6, e6, et, cm, cut2, ni]
    cases b
    case true =>
      simp -implicitDefEqProofs (disch := (first | omega | (simp only [List.length_append, List.length_cons, List.length_nil, List.length_map, List.length_set] <;> omega) | fail)) [-getElem?_pos]
      subst ey
      exact (hK _ _ ⟨xs, A6, some x, some (cD (d4 - 5, d5, m2)), rfl, rfl, c, O, by omega⟩).1
    case false =>
      have hy := of_decide_eq_false hy
      have lx : (cs xs).length = xs.length := List.length_map _
      simp -implicitDefEqProofs (disch := (first | omega | (simp only [List.length_append, List.length_cons, List.length_nil, List.length_map, List.length_set] <;> omega) | fail)) [-getElem?_pos, cl6, lx]
      refine (p_draw h (by omega) (by omega)).w c ?_
      rintro _ A7 ⟨d7, rfl, d70, d71⟩ c cl7
      have mi := mutL_ins (xs := cs xs) (y := cD y) (i := d7) (by rw [lx]; omega) d70 (by omega)
      have e7 : (cs xs).take d7.toNat ++ [cD y] ++ (cs xs).drop d7.toNat = cs (xs.take d7.toNat ++ y :: xs.drop d7.toNat) := by simp [cs, List.map_take, List.map_drop]
      rw [e7] at mi
      rw [← et] at mi
      simp -implicitDefEqProofs (disch := (first | omega | (simp only [List.length_append, List.length_cons, List.length_nil, List.length_map, List.length_set] <;> omega) | fail)) [-getElem?_pos, cl7, mi]
      subst ey
      refine (hK _ _ ⟨xs.take d7.toNat ++ (d4 - 5, d5, m2) :: xs.drop d7.toNat, A7, some x, some (cD (d4 - 5, d5, m2)), rfl, rfl, c, O.ins ry hy (by omega), ?_⟩).1
      rw [(ins_perm xs (d4 - 5, d5, m2) d7.toNat).length_eq, List.length_cons]
      omega
  · rintro env Z ⟨xs, A, q2, q3, rfl, rfl, c, O, hl⟩
    have cl := c.1
    simp -implicitDefEqProofs (disch := (first | omega | (simp only [List.length_append, List.length_cons, List.length_nil, List.length_map, List.length_set] <;> omega) | fail)) [-getElem?_pos, cl]
    exact hK _ _ ⟨xs, rfl, O⟩ c
/-! ### another picture -/
def Bent (xs : List Cell) (w : W) : Prop := w = .d .non ∨ ∃ ys, w = .d (.lst (cs ys)) ∧ Okc ys ∧ srt ys ≠ srt xs
theorem p_bent {l : Nat} {xs : List Cell} (h : Dp T (k + 2) Φ) (O : Okc xs) : Pt l (fun S => Φ 4 [.loc l, .d (.lst (cs xs))] S) fun w => Bent xs w := Pt.mk' fun S hp K hK => by
  obtain ⟨Ψ, h, e⟩ := h.step
  have c := Ch.rfl hp
  have cl := c.1
  have pos := O.pos
  have len := O.len
  have lx : (cs xs).length = xs.length := List.length_map _
  rw [e 4 _ _ _ rfl rfl]
  simp only [b4, Ev.start, List.map_cons, List.map_nil, List.length_cons, List.length_nil, Nat.reduceAdd, Nat.reduceSub, List.reduceReplicate, List.replicate_zero, List.cons_append, List.nil_append]
  simp -implicitDefEqProofs (disch := (first | omega | (simp only [List.length_append, List.length_cons, List.length_nil, List.length_map, List.length_set] <;> omega) | fail)) [-getElem?_pos, lx]
  refine (p_draw h (by omega) (by omega)).w0 c ?_
  rintro _ A1 ⟨a, rfl, a0, a1⟩ c cl1
  simp -implicitDefEqProofs (disch := (first | omega | (simp only [List.length_append, List.length_cons, List.length_nil, List.length_map, List.length_set] <;> omega) | fail)) [-getElem?_pos, cl1]
  refine (p_draw h (by decide) (by decide)).w0 c ?_
  rintro _ A2 ⟨way, rfl, w0, w1⟩ c cl2
  obtain ⟨p, q, x, ex, hp⟩ : ∃ p q x, xs = p ++ x :: q ∧ a = (p.length : Int) := ⟨xs.take a.toNat, xs.drop (a.toNat + 1), xs[a.toNat]'(by omega), at_split (by omega), by rw [List.length_take]; omega⟩
  subst ex
  have rx := O.rng x (by simp)
  have at1 := at_p (x := x) (q := q) hp
  have cp := cut_p (x := x) (q := q) hp
  have cq := cut_q (x := x) (q := q) hp
  obtain ⟨who, later, m⟩ := x
  have at1 : item (.lst (cs (p ++ (who, later, m) :: q))) (.int a) = some (.tup [.int who, .int later, .str [m]]) := at1
  have po := p_other (S := A2) (k := k) h rx.2.2.2.2
  have aD : ∀ xs ys : List D, bin .add (.lst xs) (.lst ys) = if xs.length + ys.length ≤ lim then some (.lst (xs ++ ys)) else none := fun _ _ => rfl
  have b0 := bent0 O
  have b1 := bent1 O
  have b2 := fun c => bent2 (c := c) O
  have lp : (cs p).length = p.length := List.length_map _
  have lq : (cs q).length = q.length := List.length_map _
  rw [List.length_append, List.length_cons] at len
  have e1 : cs (p ++ coC (who, later, m) :: q) = cs p ++ .tup [.int who, .int later, .str [co m]] :: cs q := by simp [cs, cD, coC]
  have e2 : cs (p ++ q) = cs p ++ cs q := by simp [cs]
  have e3 : ∀ c : Cell, cs (p ++ c :: q) = cs p ++ cD c :: cs q := fun c => by simp [cs]
  have hM : (p ++ (who, later, m) :: q).length = p.length + (q.length + 1) := by simp
  rw [hM] at lx
  obtain ⟨N, hN⟩ : ∃ N, N = p.length + (q.length + 1) := ⟨_, rfl⟩
  rw [← hN] at lx hM
  have q1 : p.length + 1 ≤ 4000000 := by omega
  have q2 : p.length + 1 + q.length ≤ 4000000 := by omega
  have q3 : p.length + q.length ≤ 4000000 := by omega
  have ww : way = 0 ∨ (way = 1 ∧ 1 < N) ∨ ((way = 1 ∧ N = 1) ∨ way = 2) := by omega
  rcases ww with rfl | ⟨rfl, hN1⟩ | hC
  · simp -implicitDefEqProofs (disch := (first | omega | (simp only [List.length_append, List.length_cons, List.length_nil, List.length_map, List.length_set] <;> omega) | fail)) [-getElem?_pos, cl2, at1, po, cp, cq, lp, lq, q1, q2]
    rw [← e1]
    exact hK _ _ (.inr ⟨_, rfl, b0⟩) c
  · have cm : evE T Ψ cm4_0 [some (.loc l), some (.d (.lst (cs (p ++ (who, later, m) :: q)))), none, some (.d (.int a)), some (.d (.int 1)), some (.d (.int who)), some (.d (.int later)), some (.d (.str [m])), some (.d (.lst (cs p ++ cs q))), none] A2 = .ok (.d (.lst (((p ++ q).map fun c => c.2.1).map .int))) A2 := by
      rw [List.map_map, ← e2]
      exact cmpr_map_at (c := cD) (fun c => .int c.2.1) (by simp [items, cs]) (by rw [List.length_append]; omega) fun z hz acc => ⟨[some (.loc l), some (.d (.lst (cs (p ++ (who, later, m) :: q)))), none, some (.d (.int a)), some (.d (.int 1)), some (.d (.int who)), some (.d (.int later)), some (.d (.str [m])), some (.d (.lst (cs (p ++ q)))), some (.d (cD z))], by simp [bindN, wipe], by
        have it : item (cD z) (.int 1) = some (.int z.2.1) := rfl
        simp [it]⟩
    have ii := in_ints (d := 0) (xs := (p ++ q).map fun c => c.2.1)
    have ii := e_cmp (T := T) (Φ := Ψ) (S := A2) rfl ii
    generalize ((p ++ q).map fun c => c.2.1).map D.int = ks at *
    generalize hb : decide ((0 : Int) ∈ (p ++ q).map fun c => c.2.1) = b at *
    have g1 : decide ((1 : Int) < (N : Int)) = true := decide_eq_true (by omega)
    simp -implicitDefEqProofs (disch := (first | omega | (simp only [List.length_append, List.length_cons, List.length_nil, List.length_map, List.length_set] <;> omega) | fail)) [-getElem?_pos, cl2, at1, po, cp, cq, lp, lq, lx, g1, cm, ii, q3]
    cases b
    case true =>
      simp -implicitDefEqProofs (disch := (first | omega | (simp only [List.length_append, List.length_cons, List.length_nil, List.length_map, List.length_set] <;> omega) | fail)) [-getElem?_pos]
      rw [← e2]
      exact hK _ _ (.inr ⟨_, rfl, b1 (of_decide_eq_true hb)⟩) c
    case false =>
      simp -implicitDefEqProofs (disch := (first | omega | (simp only [List.length_append, List.length_cons, List.length_nil, List.length_map, List.length_set] <;> omega) | fail)) [-getElem?_pos]
      exact hK _ _ (.inl rfl) c
  · obtain ⟨y, ey⟩ : ∃ y : Cell, y = ((who + 6) % 11 - 5, later, m) := ⟨_, rfl⟩
    have ry : Rng y := by
      rw [ey]
      simp only [Rng] at rx ⊢
      omega
    have et : D.tup [.int ((who + 6) % 11 - 5), .int later, .str [m]] = cD y := by rw [ey]; rfl
    have cm : ∀ w, evE T Ψ cm4_1 [some (.loc l), some (.d (.lst (cs (p ++ (who, later, m) :: q)))), some (.d (cD y)), some (.d (.int a)), some (.d (.int w)), some (.d (.int who)), some (.d (.int later)), some (.d (.str [m])), none, none] A2 = .ok (.d (.lst (((p ++ (who, later, m) :: q).map ke).map kD))) A2 := fun w => by
      rw [List.map_map]
      exact cmpr_map_at (c := cD) (fun c => kD (ke c)) (by simp [items, cs]) (by omega) fun z hz acc => ⟨[some (.loc l), some (.d (.lst (cs (p ++ (who, later, m) :: q)))), some (.d (cD y)), some (.d (.int a)), some (.d (.int w)), some (.d (.int who)), some (.d (.int later)), some (.d (.str [m])), none, some (.d (cD z))], by simp [bindN, wipe], by simp [cut2]⟩
    have ii := in_kD (k := ke y) (ks := (p ++ (who, later, m) :: q).map ke)
    have ii := e_cmp (T := T) (Φ := Ψ) (S := A2) rfl ii
    have b2 := b2 y ry (by rw [ey])
    have e3 := e3 y
    generalize ((p ++ (who, later, m) :: q).map ke).map kD = ks at *
    generalize hb : decide (ke y ∈ (p ++ (who, later, m) :: q).map ke) = b at *
    have g1 : way = 1 → decide ((1 : Int) < (N : Int)) = false := fun e => decide_eq_false (by omega)
    have hw : way = 1 ∨ way = 2 := hC.elim (fun z => .inl z.1) .inr
    rcases hw with rfl | rfl
    · have g1 := g1 rfl
      simp -implicitDefEqProofs (disch := (first | omega | (simp only [List.length_append, List.length_cons, List.length_nil, List.length_map, List.length_set] <;> omega) | fail)) [-getElem?_pos, cl2, at1, po, cp, cq, lp, lq, lx, g1, et, cm, ii, cut2]
      cases b
      case true =>
        simp -implicitDefEqProofs (disch := (first | omega | (simp only [List.length_append, List.length_cons, List.length_nil, List.length_map, List.length_set] <;> omega) | fail)) [-getElem?_pos]
        exact hK _ _ (.inl rfl) c
      case false =>
        simp -implicitDefEqProofs (disch := (first | omega | (simp only [List.length_append, List.length_cons, List.length_nil, List.length_map, List.length_set] <;> omega) | fail)) [-getElem?_pos, cl2, at1, po, cp, cq, lp, lq, et, q1, q2]
        rw [← e3]
        exact hK _ _ (.inr ⟨_, rfl, b2 (of_decide_eq_false hb)⟩) c
    · simp -implicitDefEqProofs (disch := (first | omega | (simp only [List.length_append, List.length_cons, List.length_nil, List.length_map, List.length_set] <;> omega) | fail)) [-getElem?_pos, cl2, at1, po, cp, cq, lp, lq, lx, et, cm, ii, cut2]
      cases b
      case true =>
        simp -implicitDefEqProofs (disch := (first | omega | (simp only [List.length_append, List.length_cons, List.length_nil, List.length_map, List.length_set] <;> omega) | fail)) [-getElem?_pos]
        exact hK _ _ (.inl rfl) c
      case false =>
        simp -implicitDefEqProofs (disch := (first | omega | (simp only [List.length_append, List.length_cons, List.length_nil, List.length_map, List.length_set] <;> omega) | fail)) [-getElem?_pos, cl2, at1, po, cp, cq, lp, lq, et, q1, q2]
        rw [← e3]
        exact hK _ _ (.inr ⟨_, rfl, b2 (of_decide_eq_false hb)⟩) c
/-! ### the order -/
theorem p_order {xs : List Cell} (h : Dp T (k + 1) Φ) (O : Okc xs) : Φ 14 [.d (.lst (cs xs))] S = .ok (.loc S.length) (S ++ [.lst (cs (ord xs))]) := wp_is fun K hK => by
  obtain ⟨Ψ, h, e⟩ := h.step
  have len := O.len
  have fl : ∀ a b : Int, (xs.filter fun c => decide (ke c = (a, b))).length ≤ 5 := fun a b => Nat.le_trans (List.length_filter_le _ _) len
  have rl : ∀ a : Int, (row xs a).length ≤ 20 := fun a => flat_le (fun b => fl a b) _
  have cm : ∀ (Z : Store) (a b : Int) (w4 : Option W), evE T Ψ cm14_0 [some (.d (.lst (cs xs))), some (.loc S.length), some (.d (.int a)), some (.d (.int b)), w4] Z = .ok (.d (.lst (cs (xs.filter fun c => decide (ke c = (a, b)))))) Z := fun Z a b w4 => by
    have := cmpr_fil_at (T := T) (Φ := Ψ) (elt := .var 4) (cs := match cm14_0 with | .cmpr _ _ _ _ (.so c) _ => c | e => e) (tg := .name 4) (it := .seq (.var 0)) (own := [4]) (env := [some (.d (.lst (cs xs))), some (.loc S.length), some (.d (.int a)), some (.d (.int b)), w4]) (S := Z) (S1 := Z) (ys := xs) (c := cD) (fun c => decide (ke c = (a, b))) cD (by simp [items, cs]) (by omega) fun z hz acc => by
      have eq := eq_kD (a := ke z) (b := (a, b))
      have eq := e_cmp (T := T) (Φ := Ψ) (S := Z ++ [.hid acc]) rfl eq
      have eq : cmpW T Ψ .eq (.d (kD (ke z))) (.d (.tup [.int a, .int b])) (Z ++ [.hid acc]) = .ok (.d (.bl (decide (ke z = (a, b))))) (Z ++ [.hid acc]) := eq
      refine ⟨[some (.d (.lst (cs xs))), some (.loc S.length), some (.d (.int a)), some (.d (.int b)), some (.d (cD z))], by simp [bindN, wipe], ?_, by simp⟩
      simp [cm14_0, cut2, eq]
    exact this
  have inner : ∀ (a : Int) (acc : List Cell) (q3 q4 : Option D) (Q : Cn Fl) (E : Cx), acc.length ≤ 1000 → (∀ q3' q4' : Option D, Q.run (.nx [some (.d (.lst (cs xs))), some (.loc S.length), some (.d (.int a)), q3'.map .d, q4'.map .d]) (S ++ [.lst (cs (acc ++ row xs a))])) → @wp Fl (evS T Ψ S.length lp14_0 [some (.d (.lst (cs xs))), some (.loc S.length), some (.d (.int a)), q3.map .d, q4.map .d] (S ++ [.lst (cs acc)])) Q E := by
    intro a acc q3 q4 Q E ha hQ
    refine wp_loopN (Z1 := S ++ [.lst (cs acc)]) (xs := ([0, 1, 2, 3] : List Int).map .int) (fun j e Z => ∃ (q3 q4 : Option D), e = [some (.d (.lst (cs xs))), some (.loc S.length), some (.d (.int a)), q3.map .d, q4.map .d] ∧ Z = S ++ [.lst (cs (acc ++ (([0, 1, 2, 3] : List Int).take j).flatMap fun b => xs.filter fun c => decide (ke c = (a, b))))]) ?_ ⟨q3, q4, rfl, by simp⟩ ?_ ?_
    · exact rng1_small (j := 4) (by simp) (by decide) (by decide)
    · rintro j x hx env Z ⟨q3, q4, rfl, rfl⟩
      rw [List.getElem?_map] at hx
      obtain ⟨b, hb, rfl⟩ := Option.map_eq_some_iff.1 hx
      refine ⟨[some (.d (.lst (cs xs))), some (.loc S.length), some (.d (.int a)), some (.d (.int b)), q4.map .d], by simp [bindN], fun K hK => ?_⟩
      have tk : (([0, 1, 2, 3] : List Int).take (j + 1)).flatMap (fun b => xs.filter fun c => decide (ke c = (a, b))) = (([0, 1, 2, 3] : List Int).take j).flatMap (fun b => xs.filter fun c => decide (ke c = (a, b))) ++ xs.filter fun c => decide (ke c = (a, b)) := by
        rw [List.take_succ, hb, List.flatMap_append]
        simp
      have hK := hK _ _ ⟨some (.int b), q4, rfl, rfl⟩
      rw [tk, ← List.append_assoc] at hK
      have fle := flat_le (fun b => fl a b) (([0, 1, 2, 3] : List Int).take j)
      have tl : (([0, 1, 2, 3] : List Int).take j).length ≤ 4 := by rw [List.length_take]; exact Nat.min_le_right _ _
      have fab := fl a b
      have cm := cm (S ++ [.lst (cs (acc ++ (([0, 1, 2, 3] : List Int).take j).flatMap fun b => xs.filter fun c => decide (ke c = (a, b))))]) a b (q4.map .d)
      generalize (([0, 1, 2, 3] : List Int).take j).flatMap (fun b => xs.filter fun c => decide (ke c = (a, b))) = fs at *
      generalize (xs.filter fun c => decide (ke c = (a, b))) = gs at *
      have l1 : (cs (acc ++ fs)).length + (cs gs).length ≤ 4000000 := by simp [cs]; omega
      have e2 : cs (acc ++ fs ++ gs) = cs (acc ++ fs) ++ cs gs := by simp [cs]
      rw [e2] at hK
      have mx := mutL_ext (xs := cs (acc ++ fs)) (ys := cs gs) l1
      generalize cs (acc ++ fs) = us at *
      generalize cs gs = vs at *
      simp -implicitDefEqProofs (disch := (first | omega | (simp only [List.length_append, List.length_cons, List.length_nil, List.length_map, List.length_set] <;> omega) | fail)) [-getElem?_pos, cm, mx]
      exact hK.1
    · rintro env Z ⟨q3, q4, rfl, rfl⟩
      exact hQ q3 q4
  rw [e 14 _ _ _ rfl rfl]
  simp only [b14, Ev.start, List.map_cons, List.map_nil, List.length_cons, List.length_nil, Nat.reduceAdd, Nat.reduceSub, List.reduceReplicate, List.replicate_zero, List.cons_append, List.nil_append]
  simp -implicitDefEqProofs (disch := (first | omega | (simp only [List.length_append, List.length_cons, List.length_nil, List.length_map, List.length_set] <;> omega) | fail)) [-getElem?_pos, fresh]
  refine wp_loopN (Z1 := S ++ [.lst []]) (xs := ([-5, -4, -3, -2, -1, 0, 1, 2, 3, 4, 5] : List Int).map .int) (fun j e Z => ∃ (q2 q3 q4 : Option D), e = [some (.d (.lst (cs xs))), some (.loc S.length), q2.map .d, q3.map .d, q4.map .d] ∧ Z = S ++ [.lst (cs ((([-5, -4, -3, -2, -1, 0, 1, 2, 3, 4, 5] : List Int).take j).flatMap (row xs)))]) ?_ ⟨none, none, none, rfl, by simp [cs]⟩ ?_ ?_
  · exact rng2_small (T := T) (Φ := Ψ) (a := .neg (.con (.int 5))) (b := .con (.int 6)) (env := [some (.d (.lst (cs xs))), some (.loc S.length), none, none, none]) (S := S ++ [.lst []]) (S1 := S ++ [.lst []]) (S2 := S ++ [.lst []]) (i := -5) (j := 6) (by simp) (by simp) (by decide) (by decide) (by decide) (by decide)
  · rintro j x hx env Z ⟨q2, q3, q4, rfl, rfl⟩
    rw [List.getElem?_map] at hx
    obtain ⟨a, ha, rfl⟩ := Option.map_eq_some_iff.1 hx
    refine ⟨[some (.d (.lst (cs xs))), some (.loc S.length), some (.d (.int a)), q3.map .d, q4.map .d], by simp [bindN], fun K hK => ?_⟩
    have fle := flat_le rl (([-5, -4, -3, -2, -1, 0, 1, 2, 3, 4, 5] : List Int).take j)
    have tl : (([-5, -4, -3, -2, -1, 0, 1, 2, 3, 4, 5] : List Int).take j).length ≤ 11 := by rw [List.length_take]; exact Nat.min_le_right _ _
    have tk : (([-5, -4, -3, -2, -1, 0, 1, 2, 3, 4, 5] : List Int).take (j + 1)).flatMap (row xs) = (([-5, -4, -3, -2, -1, 0, 1, 2, 3, 4, 5] : List Int).take j).flatMap (row xs) ++ row xs a := by
      rw [List.take_succ, ha, List.flatMap_append]
      simp
    rw [v_cons]
    refine inner a _ q3 q4 _ _ (by omega) fun q3' q4' => ?_
    have hK := hK _ _ ⟨some (.int a), q3', q4', rfl, rfl⟩
    rw [tk] at hK
    generalize cs ((([-5, -4, -3, -2, -1, 0, 1, 2, 3, 4, 5] : List Int).take j).flatMap (row xs) ++ row xs a) = us at *
    simp -implicitDefEqProofs (disch := (first | omega | (simp only [List.length_append, List.length_cons, List.length_nil, List.length_map, List.length_set] <;> omega) | fail)) [-getElem?_pos]
    exact hK.1
  · rintro env Z ⟨q2, q3, q4, rfl, rfl⟩
    rw [show ((([-5, -4, -3, -2, -1, 0, 1, 2, 3, 4, 5] : List Int).map D.int).length) = 11 from rfl, show (([-5, -4, -3, -2, -1, 0, 1, 2, 3, 4, 5] : List Int).take 11) = [-5, -4, -3, -2, -1, 0, 1, 2, 3, 4, 5] from rfl, ← ord_rows]
    generalize cs (ord xs) = us at *
    simp -implicitDefEqProofs (disch := (first | omega | (simp only [List.length_append, List.length_cons, List.length_nil, List.length_map, List.length_set] <;> omega) | fail)) [-getElem?_pos]
    exact hK
/-! ### told right -/
theorem p_told {xs : List Cell} (h : Dp T (k + 2) Φ) (O : Okc xs) : Φ 5 [.d (pcD (srt xs)), .d (.lst (cs xs))] S = .ok (.d (.bl true)) S := wp_is fun K hK => by
  obtain ⟨Ψ, h, e⟩ := h.step
  have po := p_order (S := S) (k := k) h O
  rw [ord_srt O] at po
  have O2 := srt_ok O
  have lx : (srt xs).length ≤ 5 := O2.len
  have px := O2.pos
  generalize srt xs = zs at *
  have sq := @O2.rng
  obtain ⟨v, hv, v0, v3⟩ := sp_some O2.rng px
  have ac := fun S => a_cells (S := S) (k := k) (xs := zs) h
  have as_ := fun S => a_span (S := S) (k := k) h lx hv
  have st := fun S => p_pstr (S := S) (k := k) h O2.rng lx
  have rp := fun S => p_prepr (S := S) (k := k) h O2.rng lx
  obtain ⟨r1, r2⟩ := rp_cs O2.rng lx
  have f : fits 3 20 (.tup (cs zs)) := by rw [fits]; exact fits_cs O2.rng
  have rt : ∀ S, biW T Ψ .repr [.d (.tup (cs zs))] S = .ok (.d (.str (reprD (.tup (cs zs))))) S := fun S => e_rep (k := 3) f (by decide) (by decide) (by have := rz_cs zs; rw [rz]; omega)
  have ri : ∀ S, biW T Ψ .repr [.d (.int v)] S = .ok (.d (.str (reprD (.int v)))) S := fun S => e_rep (k := 3) (by simp only [fits]; omega) (by decide) (by decide) (by simp [rz])
  have rl : ∀ S, biW T Ψ .repr [.d (.lst (cs zs))] S = .ok (.d (.str (reprD (.lst (cs zs))))) S := fun S => e_repr rfl r1
  have tu : bi .tuple [.lst (cs zs)] = some (.tup (cs zs)) := rfl
  have cm0 : ∀ S, evE T Ψ cm5_0 [some (.d (pcD zs)), some (.d (.lst (cs xs))), some (.d (.lst (cs zs))), none, none, none, none] S = .ok (.d (.lst (zs.map fun c => .str (ctx c)))) S := fun S => cmpr_map_at (c := cD) (fun c => .str (ctx c)) (by simp [items, cs]) (by omega) fun z hz acc => by
    have r := O2.rng z hz
    obtain ⟨a, b, m⟩ := z
    simp only [Rng] at r
    have sa : ∀ i : Int, -5 ≤ i ∧ i ≤ 5 → bi .str [.int i] = some (.str (strI i)) := fun i hi => if_pos (si_nat hi)
    have s1 := sa a (by omega)
    have s2 := sa b (by omega)
    have l1 := si_len (i := a) (by omega)
    have l2 := si_len (i := b) (by omega)
    have b1 : ∀ Z, biW T Ψ .str [.d (.int a)] Z = .ok (.d (.str (strI a))) Z := fun Z => by
      have e : biW T Ψ .str [.d (.int a)] Z = (R.of ((rds Z [.d (.int a)]).bind (bi .str)) Z).bind fun z S => .ok (.d z) S := rfl
      rw [e]
      simp [rds, s1]
    have b2 : ∀ Z, biW T Ψ .str [.d (.int b)] Z = .ok (.d (.str (strI b))) Z := fun Z => by
      have e : biW T Ψ .str [.d (.int b)] Z = (R.of ((rds Z [.d (.int b)]).bind (bi .str)) Z).bind fun z S => .ok (.d z) S := rfl
      rw [e]
      simp [rds, s2]
    refine ⟨[some (.d (pcD zs)), some (.d (.lst (cs xs))), some (.d (.lst (cs zs))), none, some (.d (.int a)), some (.d (.int b)), some (.d (.str [m]))], by simp [bindN, bindNs, cD, wipe], ?_⟩
    simp only [ctx]
    generalize strI a = t1 at *
    generalize strI b = t2 at *
    have q1 : t1.length ≤ 2 := l1
    have q2 : t2.length ≤ 2 := l2
    simp (disch := (simp only [List.length_append, List.length_cons, List.length_nil] <;> omega)) [b1, b2]
  have jo := ctx_join O2.rng lx
  have cm1 : ∀ S w3, evE T Ψ cm5_1 [some (.d (pcD zs)), some (.d (.lst (cs xs))), some (.d (.lst (cs zs))), w3, none, none, none] S = .ok (.d (spL zs)) S := fun S w3 => cmpr_map_at (c := cD) (fun c => .int c.2.1) (by simp [items, cs]) (by omega) fun z hz acc => by
    obtain ⟨a, b, m⟩ := z
    exact ⟨[some (.d (pcD zs)), some (.d (.lst (cs xs))), some (.d (.lst (cs zs))), w3, some (.d (.int a)), some (.d (.int b)), some (.d (.str [m]))], by simp [bindN, bindNs, cD, wipe], by simp⟩
  simp only [pcR] at rp
  generalize reprD (.lst (cs zs)) = t1 at *
  generalize reprD (.tup (cs zs)) = t2 at *
  generalize reprD (.int v) = t3 at *
  generalize ctxs zs = t4 at *
  generalize (zs.map fun c => D.str (ctx c)) = t5 at *
  generalize pcD zs = shp at *
  rw [e 5 _ _ _ rfl rfl]
  simp only [b5, Ev.start, List.map_cons, List.map_nil, List.length_cons, List.length_nil, Nat.reduceAdd, Nat.reduceSub, List.reduceReplicate, List.replicate_zero, List.cons_append, List.nil_append]
  simp -implicitDefEqProofs (disch := (first | omega | (simp only [List.length_append, List.length_cons, List.length_nil, List.length_map, List.length_set] <;> omega) | fail)) [-getElem?_pos, po, cm0, jo, ac, as_, rt, ri, tu, cm1, hv, st, rp, rl]
  exact hK
/-! ### the law -/
theorem p_right {l : Nat} (h : Dp T (k + 7) Φ) : Pt l (fun S => Φ 1 [.loc l] S) fun w => w = .d (.bl true) := Pt.mk' fun S hp K hK => by
  obtain ⟨Ψ, h, e⟩ := h.step
  have c := Ch.rfl hp
  have hl := hp.lt
  rw [e 1 _ _ _ rfl rfl]
  simp only [b1, Ev.start, List.map_cons, List.map_nil, List.length_cons, List.length_nil, Nat.reduceAdd, Nat.reduceSub, List.reduceReplicate, List.replicate_zero, List.cons_append, List.nil_append]
  simp -implicitDefEqProofs (disch := (first | omega | (simp only [List.length_append, List.length_cons, List.length_nil, List.length_map, List.length_set] <;> omega) | fail)) [-getElem?_pos]
  refine (p_some (k := k + 4) h).w0 c ?_
  rintro _ A1 ⟨xs, rfl, O⟩ c cl1
  have lx : (cs xs).length = xs.length := List.length_map _
  have len := O.len
  have pos := O.pos
  have O2 := srt_ok O
  have ak : ∀ w v, argsW T 12 [.pos 0, .kw 0] [w] [v] = some [w, v] := fun _ _ => rfl
  have me : ∀ Z zs, methOf T Z (.d (pcD zs)) 4 = some 7 := fun _ _ => rfl
  have pin : ∀ (ys : List Cell) (w : W) (Z : Store) (o : SO) (n : Nat), Okc ys → Sq (Z ++ [o]) w ys → Z.length + 1 = n → Ψ 12 [.loc n, w] (Z ++ [o, .ins 0 []]) = .ok (.d .non) (Z ++ [o, .ins 0 [(0, .tup (cs (srt ys)))]]) := fun ys w Z o n O hw hn => p_pinit2 (k := k + 1) h O hw hn
  have fr : ∀ (ys : List Cell) (Z : Store) (o : SO) (n : Nat), Z.length + 1 = n → coldAt T n (.loc n) (Z ++ [o, .ins 0 [(0, .tup (cs ys))]]) = .ok (.d (pcD ys)) (Z ++ [o]) := fun ys Z o n hn => f_pic2 hn
  have p1 := fun n => pin xs (.loc S.length) A1 (.lst (cs xs)) n O (.inr (.inr ⟨S.length, rfl, by simp [cl1]⟩))
  have f1 := fr (srt xs)
  simp -implicitDefEqProofs (disch := (first | omega | (simp only [List.length_append, List.length_cons, List.length_nil, List.length_map, List.length_set] <;> omega) | fail)) [-getElem?_pos, cl1, fresh, clsP, p1, f1]
  refine (p_bent (k := k + 4) h O).w c ?_
  rintro wb A2 HB c cl2
  obtain ⟨x0, us, e0⟩ : ∃ x0 us, cs xs = x0 :: us := by
    cases xs with
    | nil => cases pos
    | cons x xs => exact ⟨_, _, rfl⟩
  have rv : (cs xs).reverse = cs xs.reverse := by simp [cs]
  have tu : ∀ ds : List D, bi .tuple [.lst ds] = some (.tup ds) := fun _ => rfl
  have Or := rev_ok O
  have Oc := co_ok O
  have p2 := fun Z o n => pin xs.reverse (.d (.tup (cs xs.reverse))) Z o n Or (.inr (.inl rfl))
  have p3 := fun Z o n => pin xs.reverse (.d (.lst (cs xs.reverse))) Z o n Or (.inl rfl)
  have p4 := fun Z o n => pin (xs.map coC) (.d (.lst (cs (xs.map coC)))) Z o n Oc (.inl rfl)
  have pt : ∀ Z, Ψ 5 [.d (pcD (srt xs)), .d (.lst (cs xs))] Z = .ok (.d (.bl true)) Z := fun Z => p_told (k := k + 4) h O
  have pt2 : ∀ Z, Ψ 5 [.d (pcD ((srt xs).map coC)), .d (.lst (cs (xs.map coC)))] Z = .ok (.d (.bl true)) Z := fun Z => by
    have := p_told (S := Z) (k := k + 4) h Oc
    rw [srt_co O] at this
    exact this
  have pc : ∀ Z, Ψ 7 [.d (pcD (srt xs))] Z = .ok (.d (pcD ((srt xs).map coC))) Z := fun Z => p_pcon (k := k) h O2 (srt_pw O.nd)
  have Oc2 := co_ok O2
  have pc2 : ∀ Z, Ψ 7 [.d (pcD ((srt xs).map coC))] Z = .ok (.d (pcD (srt xs))) Z := fun Z => by
    have := p_pcon (S := Z) (k := k) h Oc2 (co_pw (srt_pw O.nd))
    rw [map_coco O2.rng] at this
    exact this
  rw [srt_rev O] at p2 p3
  rw [srt_co O] at p4
  have e1 := fun Z => (c_peq (k := k + 5) (S := Z) h Oc2.rng Oc2.rng).2
  have e2 := fun Z => (c_peq (k := k + 5) (S := Z) h O2.rng O2.rng).2
  have e3 := fun Z => (c_peq (k := k + 5) (S := Z) h O2.rng Oc2.rng).1
  rw [decide_eq_false fun e => co_unlike O2.rng O2.pos e.symm] at e3
  simp only [decide_true, Bool.not_true] at e1 e2
  have ap : mutL .append (cs xs) [.non] = some (.non, cs xs ++ [.non]) := mutL_app (by omega)
  have cm0 : ∀ Z w, evE T Ψ cm1_0 [some (.loc l), some (.d (.lst (cs xs))), some (.loc S.length), none, some (.d (pcD (srt xs))), w, none, none, none, none, none] Z = .ok (.d (.lst (cs (xs.map coC)))) Z := fun Z w => by
    rw [show cs (xs.map coC) = xs.map fun c => cD (coC c) by unfold cs; rw [List.map_map]; rfl]
    exact cmpr_map_at (c := cD) (fun c => cD (coC c)) (by simp [items, cs]) (by omega) fun x hx acc => by
      have hm := (O.rng x hx).2.2.2.2
      obtain ⟨a, b, m⟩ := x
      have po := p_other (k := k + 5) (S := Z ++ [.hid acc]) h hm
      exact ⟨[some (.loc l), some (.d (.lst (cs xs))), some (.loc S.length), none, some (.d (pcD (srt xs))), w, none, some (.d (.int a)), some (.d (.int b)), some (.d (.str [m])), none], by simp [bindN, bindNs, cD, wipe], by simp [po, cD, coC]⟩
  obtain ⟨wd, rfl, HB2⟩ : ∃ d : D, wb = .d d ∧ (d = .non ∨ ∃ ys, d = .lst (cs ys) ∧ Okc ys ∧ srt ys ≠ srt xs) := by
    rcases HB with rfl | ⟨ys, rfl, h⟩
    · exact ⟨_, rfl, .inl rfl⟩
    · exact ⟨_, rfl, .inr ⟨ys, rfl, h⟩⟩
  simp -implicitDefEqProofs (disch := (first | omega | (simp only [List.length_append, List.length_cons, List.length_nil, List.length_map, List.length_set] <;> omega) | fail)) [-getElem?_pos, cl2, ap]
  generalize (cs xs).set 0 D.non ++ [D.non] = gv
  have f2 := fr ((srt xs).map coC)
  simp -implicitDefEqProofs (disch := (first | omega | (simp only [List.length_append, List.length_cons, List.length_nil, List.length_map, List.length_set] <;> omega) | fail)) [-getElem?_pos, cl2, pt, rv, tu, ak, clsP, p2, f1, cm0, me, pc, pt2, p4, f2, e1, pc2, e2, e3, p3]
  have acl := fun Z => a_cells (k := k + 5) (S := Z) (xs := srt xs) h
  have st := fun Z => p_pstr (S := Z) (k := k + 5) h O2.rng O2.len
  have rp := fun Z => p_prepr (S := Z) (k := k + 5) h O2.rng O2.len
  have li : bi .list [.lst (cs xs)] = some (.lst (cs xs)) := rfl
  have eo := fun (Z : Store) (y : D) (t : Tag) => c_peqO (k := k + 5) (S := Z) (xs := srt xs) (y := y) (t := t) h
  have cm1 : ∀ Z w2 w3 w5 w6, evE T Ψ cm1_1 [some (.loc l), some (.d (.lst (cs xs))), w2, w3, some (.d (pcD (srt xs))), w5, w6, none, none, none, none] Z = .ok (.d (.lst [.bl false, .bl false, .bl false, .bl false, .bl false, .bl false])) Z := fun Z w2 w3 w5 w6 => by
    have := cmpr_map_at (T := T) (Φ := Ψ) (elt := .cmp .eq (.var 4) (.var 10)) (tg := .name 10) (it := match cm1_1 with | .cmpr _ _ _ it _ _ => it | _ => .seq (.var 0)) (own := [10]) (env := [some (.loc l), some (.d (.lst (cs xs))), w2, w3, some (.d (pcD (srt xs))), w5, w6, none, none, none, none]) (S := Z) (S1 := Z) (ys := [.non, .tup (cs (srt xs)), .lst (cs xs), .str (pcR (srt xs)), .str (ctxs (srt xs)), .int 0]) (c := fun d => d) (fun _ => .bl false) (by
        simp [cm1_1, acl, li, rp, st, items]) (by simp) fun z hz acc => by
      refine ⟨[some (.loc l), some (.d (.lst (cs xs))), w2, w3, some (.d (pcD (srt xs))), w5, w6, none, none, none, some (.d z)], by simp [bindN, wipe], ?_⟩
      have q : ∃ t, tagD T z = some t ∧ isK T t (.cls 0) = false := by
        simp only [List.mem_cons, List.not_mem_nil, or_false] at hz
        rcases hz with rfl | rfl | rfl | rfl | rfl | rfl <;> exact ⟨_, rfl, rfl⟩
      obtain ⟨t, q1, q2⟩ := q
      have := eo (Z ++ [.hid acc]) z t q1 q2
      simp [this]
    exact this
  have an : bi .any [.lst [.bl false, .bl false, .bl false, .bl false, .bl false, .bl false]] = some (.bl false) := rfl
  rcases HB2 with rfl | ⟨ys, rfl, Oy, ny⟩
  · have nn : cmp .notN .non .non = some (.bl false) := rfl
    have nn := e_cmp (T := T) (Φ := Ψ) (S := A2 ++ [.lst gv]) rfl nn
    simp -implicitDefEqProofs (disch := (first | omega | (simp only [List.length_append, List.length_cons, List.length_nil, List.length_map, List.length_set] <;> omega) | fail)) [-getElem?_pos, nn, cm1, an, pt, cl2]
    exact hK _ _ rfl c
  · have nn : cmp .notN (.lst (cs ys)) .non = some (.bl true) := rfl
    have nn := e_cmp (T := T) (Φ := Ψ) (S := A2 ++ [.lst gv]) rfl nn
    have p5 := fun Z o n => pin ys (.d (.lst (cs ys))) Z o n Oy (.inl rfl)
    have f5 := fr (srt ys)
    have e5 := fun Z => (c_peq (k := k + 5) (S := Z) h (srt_ok Oy).rng O2.rng).1
    have pt5 : ∀ Z, Ψ 5 [.d (pcD (srt ys)), .d (.lst (cs ys))] Z = .ok (.d (.bl true)) Z := fun Z => p_told (k := k + 4) h Oy
    rw [decide_eq_false ny] at e5
    simp -implicitDefEqProofs (disch := (first | omega | (simp only [List.length_append, List.length_cons, List.length_nil, List.length_map, List.length_set] <;> omega) | fail)) [-getElem?_pos, nn, clsP, p5, f5, e5, pt5, cm1, an, pt, cl2]
    exact hK _ _ rfl c
theorem right {n l : Nat} {S : Store} (hp : PotAt l S) : ∃ S', callD T (n + 7) 1 [.loc l] S = .ok (.d (.bl true)) S' ∧ Ch l S S' := by
  obtain ⟨w, S', e, rfl, c⟩ := p_right (k := 0) ⟨n, rfl⟩ S hp
  exact ⟨S', e, c⟩
end K51
end
section
set_option linter.all false
set_option maxRecDepth 100000
set_option maxHeartbeats 4000000
namespace Wd
end Wd
namespace K51
open Ev Wd
theorem law_turn {ns : List Int} {k : Int} {acc : List D} {B : Store} {n : Nat} (hn : ns.length ≤ 63) (k0 : 0 ≤ k) (k1 : k < 3) : ∃ o, evE T (callD T (n + 7)) (.call 1 (.cons (.call 2 (.cons (.var 0) (.cons (.var 1) .nil)) .nil []) .nil) .nil []) [some (.d (.scr ns)), some (.d (.int k))] (.hid acc :: B) = .ok (.d (.bl true)) (.hid acc :: (B ++ [o])) := by
  obtain ⟨a, b, e2, a0, b0, b1⟩ := pot (n := n + 6) (S := SO.hid acc :: B) hn k0 (by omega)
  obtain ⟨S3, e3, c3⟩ := right (n := n) (l := (SO.hid acc :: B).length) (S := (SO.hid acc :: B) ++ [.lst [.int a, .int b]]) ⟨a, b, by simp, a0, b0, b1⟩
  obtain ⟨o, rfl⟩ := c3.last
  refine ⟨o, ?_⟩
  simp only [List.cons_append, List.length_cons] at e2 e3
  simp [e2, e3]
theorem items_n {ns : List Int} {n : Nat} : ∃ J : Int, J ≤ 3 ∧ evI T (callD T (n + 7)) (match cm0_0 with | .cmpr _ _ _ it _ _ => it | _ => .seq (.var 0)) [some (.d (.scr ns)), none] [] = .ok (intRange 0 J) [] := by
  obtain ⟨L, e⟩ : ∃ L : Int, bi .len [.scr ns] = some (.int L) := ⟨_, rfl⟩
  by_cases c : 3 < L
  · exact ⟨3, by omega, by simp (disch := omega) [cm0_0, e, -f_lenr]⟩
  · by_cases c2 : 1 < L
    · exact ⟨L, by omega, by first | (simp (disch := omega) [cm0_0, e, -f_lenr]; done) | (simp (disch := omega) [cm0_0, e, -f_lenr]; congr 1; split <;> omega)⟩
    · exact ⟨1, by omega, by simp (disch := omega) [cm0_0, e, -f_lenr]⟩
theorem plain_n (ns : List Int) (hn : ns.length ≤ 63) : ∃ S, callD T (n + 8) 0 [.d (.scr ns)] [] = .ok (.d (.bl true)) S := by
  rw [f (n + 7) 0 _ [] _ rfl rfl]
  obtain ⟨J, J4, hJ⟩ := items_n (ns := ns) (n := n)
  obtain ⟨ys, S2, A, e1, h1, h2, h3⟩ : ∃ ys A B, evE T (callD T (n + 7)) cm0_0 [some (.d (.scr ns)), none] [] = .ok (.d (.lst ys)) A ∧ A.length = ([] : Store).length ∧ A = [] ∧ All2 (fun _ y => y = .bl true) (intRange 0 J) ys :=
    cmpr_st (S1 := []) (fun A B => A = []) (fun _ y => y = .bl true) hJ rfl (by simp [intRange]; omega) (fun x hx A B acc hA hQ => by
      subst hQ
      obtain ⟨k, rfl, k0, k1⟩ := mem_intRange hx
      obtain ⟨o, e⟩ := law_turn (n := n) (acc := acc) (B := B) hn k0 (by omega)
      exact ⟨[some (.d (.scr ns)), some (.d (.int k))], .bl true, [], B ++ [o], by simp [bindN, wipe], e, rfl, rfl, rfl⟩)
  refine ⟨[], ?_⟩
  have e4 := all_true (h3.all fun _ _ h => h)
  subst h2
  simp [b0, Ev.start, e1, e4]
theorem plain (ns : List Int) (hn : ns.length ≤ 63) : ∃ S, callD T (12 + 8) 0 [.d (.scr ns)] [] = .ok (.d (.bl true)) S := plain_n (n := 12) ns hn
end K51
end
section
set_option linter.all false
set_option maxRecDepth 100000
set_option maxHeartbeats 0
open PySem PySem.W PySem.Calls PyProof.Rows
theorem PySem.Challenge.cw_ringrows_k51_pictures_told_holds : PySem.Challenge.rw_ringrows_k51_pictures_told.Holds := by
  w_on; o_law
  refine HandSHeadRun.head_any (r := OpenLaw.row PySem.Challenge.rw_ringrows_k51_pictures_told) (q := view (OpenLaw.row PySem.Challenge.rw_ringrows_k51_pictures_told).prog [31]) (H := K51.hk) (ob := K51.ob) (M := 2200) (loose := K51.loose) (d := HandSHeadRun.topDef (OpenLaw.row PySem.Challenge.rw_ringrows_k51_pictures_told).prog 31) (kwd := []) K51.ob_eq
    (by kernel_rfl) (fun s => by kernel_rfl) K51.run (by kernel_rfl) (by kernel_rfl) (by kernel_rfl) (by rfl) (by first | assumption | decide +kernel) (by decide +kernel) ⟨rfl, rfl, rfl, rfl, rfl, by decide +kernel⟩ ?hw ?hc
  case hw => w_witness2
  case hc =>
    exact Ev.law_walk (Y := K51.Y) (l := PySem.Challenge.rw_ringrows_k51_pictures_told) (m := 63) (g := 0) (x := "script") rfl (by decide) (by kernel_rfl) (12 + 8) ⟨rfl, by decide, by decide⟩ rfl (by kernel_rfl) (by kernel_rfl) (by kernel_rfl) (by decide +kernel) K51.body_ok K51.stat_ok K51.sig_ok K51.plain
end
