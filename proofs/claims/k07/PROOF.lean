import PyProof.Rows.All
import Wide.All
import OpenK.AllK
import Wide.FinOn
import KE.SortData
import KE.DataEq
import KE.DataCmp
import KE.KeyNested
import PyProof.ReprReads
import HandS.ForMost
import HandS.Exc
import HandS.TryOnly
import HandS.ExcOwn
import HandS.WordsExc
import HandS.Walk
import HandS.TupSets
import HandS.TupAny
import HandS.TupMul
import HandS.TupLe
import HandS.CallSlots
import KE.KDictKeyed
import PyProof.SetScanFacts
import HandS.SetBool
import KE.DataIsa
import KE.KDictCopyH
import HandS.SetFor
import HandS.Conv
import KE.KDictPairs
import HandS.Text
import HandS.StrMore
import HandS.DictComp
import KE.GoesMore
import HandS.Style
import KE.KExcSuper
import HandS.ExcInit
import HandS.ExcField
import HandS.HeadHook1
import HandS.HeadHook2
import HandS.HeadEnd
import HandS.Head0
import HandS.Head1
import HandS.Head2
import PySem.Challenge.RW_tornlines_k07_whole_texts_taken
set_option Elab.async false
set_option linter.all false
set_option maxRecDepth 100000
/-! Mini: a small language for the text's defs: its syntax and what it does, over plain data. -/
namespace Mini
open PySem

/-! ### values, states, ends -/
inductive Val where
  /-- data that nobody changes any more -/
  | d (x : PyData)
  /-- a list, a dict, a set that one name alone holds -/
  | ol (xs : List PyData)
  | od (kvs : List (PyData × PyData))
  | os (xs : List PyData)
  /-- the law's own state of draws -/
  | drw
  /-- the script itself -/
  | scr (ns : List Int)
  /-- an error that was caught -/
  | er (c : Str) (fs : List (Str × PyData))

structure Err where
  cls : Str
  fs : List (Str × PyData)

structure Draw where
  cells : List Int
  left : List Int
  count : Int

structure Sta where
  ρ : List (Option Val)
  dr : Option Draw

inductive Out (α : Type) where
  | ok (a : α) (s : Sta)
  | er (e : Err) (s : Sta)
  | no

def M (α : Type) := Sta → Out α
def M.ret {α : Type} (a : α) : M α := fun s => .ok a s
def M.no {α : Type} : M α := fun _ => .no
def M.bind {α β : Type} (m : M α) (f : α → M β) : M β := fun s => match m s with
  | .ok a s' => f a s'
  | .er e s' => .er e s'
  | .no => .no
def M.of {α : Type} (o : Option α) : M α := fun s => match o with
  | some a => .ok a s
  | none => .no

/-! ### views -/
def Val.dat : Val → Option PyData
  | .d x => some x
  | .ol xs => some (.list xs)
  | .od kvs => some (.dict kvs)
  | _ => none
def Val.owned : Val → Bool
  | .ol _ | .od _ | .os _ => true
  | _ => false
/-- put away for good -/
def Val.frz : Val → Option Val
  | .ol xs => some (.d (.list xs))
  | .od kvs => some (.d (.dict kvs))
  | .os _ => none
  | v => some v
/-- list or tuple -/
def PyData.seq? : PyData → Option (List PyData)
  | .list xs => some xs
  | .tuple xs => some xs
  | _ => none
def bl (b : Bool) : Val := .d (.bool b)
def int (i : Int) : Val := .d (.int i)
def str (x : Str) : Val := .d (.str x)

/-! ### what the operators do -/
def fits (n : Nat) : Bool := decide (n ≤ sizeLine)
def nat (i : Int) (lo hi : Int) : Bool := decide (lo ≤ i) && decide (i ≤ hi)
/-- a small int, as a factor -/
def small (i : Int) : Bool := decide (-(2 ^ 64) < i) && decide (i < 2 ^ 64)
def addD : PyData → PyData → Option Val
  | .int i, .int j => some (int (i + j))
  | .str x, .str y => if fits (x.length + y.length) then some (str (x ++ y)) else none
  | .list xs, .list ys => if fits (xs.length + ys.length) then some (.ol (xs ++ ys)) else none
  | .tuple xs, .tuple ys => if fits (xs.length + ys.length) then some (.d (.tuple (xs ++ ys))) else none
  | _, _ => none
def subD : PyData → PyData → Option Val
  | .int i, .int j => some (int (i - j))
  | _, _ => none
def repL (xs : List PyData) (n : Int) : List PyData := (List.replicate n.toNat xs).flatten
def mulD : PyData → PyData → Option Val
  | .int i, .int j => if small i || small j then some (int (i * j)) else none
  | .list xs, .int n => if decide (-(2 ^ 62) ≤ n) && decide (n < 2 ^ 62) && fits (xs.length * n.toNat) then some (.ol (repL xs n)) else none
  | .tuple xs, .int n => if decide (2 ≤ n) && decide (n ≤ 1000) && decide (0 < xs.length) && decide (xs.length ≤ 1000) then some (.d (.tuple (repL xs n))) else none
  | _, _ => none
def modD : PyData → PyData → Option Val
  | .int i, .int j => if j = 0 then none else some (int (i.fmod j))
  | _, _ => none
def fdivD : PyData → PyData → Option Val
  | .int i, .int j => if decide (0 < j) && decide (j < 1073741824) then some (int (i.fdiv j)) else none
  | _, _ => none
def powD : PyData → PyData → Option Val
  | .int i, .int j => if decide (0 ≤ j) && decide (j ≤ 1000) && decide (i.natAbs < 2 ^ 64) then some (int (i ^ j.toNat)) else none
  | _, _ => none
def plainD (x : PyData) : Bool := x.plain && decide (x.depth ≤ 60)
def eqD (x y : PyData) : Option Bool := if plainD x && plainD y then some (PyData.eqv x y) else none
def isNoneD : PyData → Bool
  | .none => true
  | _ => false
def ordOk (x y : PyData) : Bool := W.alike x y && decide (x.depth ≤ 60) && decide (y.depth ≤ 60) && !isNoneD x
def ltD (x y : PyData) : Option Bool := if ordOk x y then some (W.dataLt x y) else none
/-! keys of dicts and sets -/
mutual
def toKey : PyData → Option NestedKey
  | .none => some .none
  | .bool b => some (.num (if b = true then 1 else 0))
  | .int i => some (.num i)
  | .str x => some (.text x)
  | .tuple xs => (toKeys xs).map .tup
  | .list _ => none
  | .dict _ => none
def toKeys : List PyData → Option (List NestedKey)
  | [] => some []
  | x :: r => match toKey x, toKeys r with
    | some k, some ks => some (k :: ks)
    | _, _ => none
end
def isTupD : PyData → Bool
  | .tuple _ => true
  | _ => false
/-- may be a key: hashable, not too deep -/
def keyOk (x : PyData) : Bool := (match x with | .bool _ => false | _ => true) && (match toKey x with | some k => decide (k.depth ≤ 8) | none => false)
def keyEq (x y : PyData) : Bool := match toKey x, toKey y with
  | some a, some b => a.beq b
  | _, _ => false
/-- the keys of one table: all tuples, or none -/
def keysWith (ks : List PyData) (k : PyData) : Bool := keyOk k && ks.all fun x => isTupD x == isTupD k
def dGet (kvs : List (PyData × PyData)) (k : PyData) : Option PyData := (kvs.find? fun p => keyEq p.1 k).map (·.2)
def dHas (kvs : List (PyData × PyData)) (k : PyData) : Bool := kvs.any fun p => keyEq p.1 k
def dPut (kvs : List (PyData × PyData)) (k v : PyData) : List (PyData × PyData) := if dHas kvs k then kvs.map fun p => if keyEq p.1 k then (p.1, v) else p else kvs ++ [(k, v)]
def sHas (xs : List PyData) (k : PyData) : Bool := xs.any fun p => keyEq p k
def sPut (xs : List PyData) (k : PyData) : List PyData := if sHas xs k then xs else xs ++ [k]
/-- one sign of a text in a text -/
def inStr (x y : Str) : Bool := !(Builtin.Str.occurrences y x 0 y.length 1).isEmpty
def inD : PyData → Val → Option Bool
  | x, .d (.list ys) => if plainD x && ys.all plainD then some (ys.any fun y => PyData.eqv y x) else none
  | x, .d (.tuple ys) => if plainD x && ys.all plainD then some (ys.any fun y => PyData.eqv y x) else none
  | x, .ol ys => if plainD x && ys.all plainD then some (ys.any fun y => PyData.eqv y x) else none
  | .str x, .d (.str y) => some (inStr x y)
  | x, .d (.dict kvs) => if keysWith (kvs.map (·.1)) x then some (dHas kvs x) else none
  | x, .od kvs => if keysWith (kvs.map (·.1)) x then some (dHas kvs x) else none
  | _, _ => none
def isD : PyData → PyData → Option Bool
  | x, .none => some (isNoneD x)
  | .bool a, .bool b => some (decide (a = b))
  | _, _ => none
inductive BOp where
  | add | sub | mul | mod | fdiv | pow
inductive COp where
  | eq | ne | lt | le | gt | ge | isIn | notIn | is | isnot
def binD : BOp → PyData → PyData → Option Val
  | .add => addD
  | .sub => subD
  | .mul => mulD
  | .mod => modD
  | .fdiv => fdivD
  | .pow => powD
def binV (op : BOp) (a b : Val) : Option Val := match a.dat, b.dat with
  | some x, some y => binD op x y
  | _, _ => none
def cmpD : COp → PyData → PyData → Option Bool
  | .eq, x, y => eqD x y
  | .ne, x, y => (eqD x y).map (!·)
  | .lt, x, y => ltD x y
  | .gt, x, y => if ordOk x y then some (W.dataLt y x) else none
  | .le, x, y => if ordOk x y then some (!W.dataLt y x) else none
  | .ge, x, y => if ordOk x y then some (!W.dataLt x y) else none
  | .is, x, y => isD x y
  | .isnot, x, y => (isD x y).map (!·)
  | _, _, _ => none
def cmpV (op : COp) (a b : Val) : Option Bool := match op with
  | .isIn => match a.dat with
    | some x => inD x b
    | none => none
  | .notIn => match a.dat with
    | some x => (inD x b).map (!·)
    | none => none
  | op => match a.dat, b.dat with
    | some x, some y => cmpD op x y
    | _, _ => none
/-- where a subscript points -/
def ixOf (n : Nat) (i : Int) : Option Nat := if 0 ≤ i then (if i < n then some i.toNat else none) else if -i ≤ n then some (n - (-i).toNat) else none
def ixD (x : Val) (i : PyData) : Option PyData := match x.dat, i with
  | some (.list xs), .int i => (ixOf xs.length i).bind fun k => xs[k]?
  | some (.tuple xs), .int i => (ixOf xs.length i).bind fun k => xs[k]?
  | some (.str z), .int i => if fits z.length then (ixOf z.cps.toList.length i).bind fun k => (z.cps.toList[k]?).map fun c => .str ⟨#[c]⟩ else none
  | some (.dict kvs), k => if keysWith (kvs.map (·.1)) k then dGet kvs k else none
  | _, _ => none
/-- the place of a slice's end -/
def cutIx (n : Nat) (dflt : Nat) : Option Int → Nat
  | none => dflt
  | some i => if i < 0 then (i + n).toNat else min i.toNat n
def cutL {α : Type} (xs : List α) (lo hi : Option Int) : List α := (xs.drop (cutIx xs.length 0 lo)).take (cutIx xs.length xs.length hi - cutIx xs.length 0 lo)
def slD (x : Val) (lo hi : Option Int) : Option Val := match x.dat with
  | some (.list xs) => some (.ol (cutL xs lo hi))
  | some (.tuple xs) => some (.d (.tuple (cutL xs lo hi)))
  | some (.str z) => if fits z.length then some (str ⟨(cutL z.cps.toList lo hi).toArray⟩) else none
  | _ => none
def truthD : PyData → Option Bool
  | .bool b => some b
  | _ => none
def asInt : PyData → Option Int
  | .int i => some i
  | _ => none
/-! built-in functions -/
inductive Bi where
  | len | sorted | tuple | list | set | dict | all | any | min | max | sum | repr | int
def allBools : List PyData → Option (List Bool)
  | [] => some []
  | .bool b :: r => (allBools r).map (b :: ·)
  | _ :: _ => none
def allInts : List PyData → Option (List Int)
  | [] => some []
  | .int i :: r => (allInts r).map (i :: ·)
  | _ :: _ => none
def allStrs : List PyData → Option (List Str)
  | [] => some []
  | .str i :: r => (allStrs r).map (i :: ·)
  | _ :: _ => none
def sortOk (xs : List PyData) : Bool :=
  (xs.all fun x => xs.all fun y => W.alike x y) && (xs.all fun x => decide (x.depth ≤ 60)) && fits xs.length &&
    ((xs.all fun x => match x with | .tuple (_ :: _) => true | _ => false) || xs.all fun x => !isNoneD x && !isTupD x)
def sortL (xs : List PyData) : List PyData := xs.mergeSort (W.dataLe false id)
def lenV : Val → Option Nat
  | .d (.str x) => if fits x.length then some x.length else none
  | .d (.list xs) => some xs.length
  | .d (.tuple xs) => some xs.length
  | .d (.dict xs) => if fits xs.length then some xs.length else none
  | .ol xs => some xs.length
  | .od xs => if fits xs.length then some xs.length else none
  | .os xs => some xs.length
  | .scr ns => some ns.length
  | _ => none
def pairOf : PyData → Option (PyData × PyData)
  | .tuple [k, v] => some (k, v)
  | _ => none
def pairsOf : List PyData → Option (List (PyData × PyData))
  | [] => some []
  | x :: r => match pairOf x, pairsOf r with
    | some p, some ps => some (p :: ps)
    | _, _ => none
def mergeD : List (PyData × PyData) → List (PyData × PyData) → List (PyData × PyData)
  | acc, [] => acc
  | acc, (k, v) :: r => mergeD (dPut acc k v) r
def dedup : List PyData → List PyData → List PyData
  | acc, [] => acc
  | acc, x :: r => dedup (sPut acc x) r
/-- may be put into one set -/
def setOk (ys : List PyData) : Bool := (ys.all fun y => keysWith ys y) && (if ys.any isTupD then decide (ys.length < 62) else decide (ys.length < 3990))
def dictOk (ps : List (PyData × PyData)) : Bool := (ps.all fun p => keyOk p.1 && isTupD p.1) && fits ps.length
def showOk (x : PyData) : Bool := x.showable && !x.hasDict && fits x.shown.length && decide (x.depth ≤ 60)
def minI (i j : Int) : Int := if j < i then j else i
def maxI (i j : Int) : Int := if j > i then j else i
def sortSrc (v : Val) : Option (List PyData) := match v with
  | .os xs => some xs
  | v => match v.dat with
    | some (.list xs) => some xs
    | some (.tuple xs) => some xs
    | some (.dict kvs) => some (kvs.map (·.1))
    | _ => none
def bi1 (b : Bi) (v : Val) : Option Val := match b with
  | .len => match lenV v with
    | some n => some (Mini.int (n : Int))
    | none => none
  | .sorted => match sortSrc v with
    | some xs => if sortOk xs then some (.ol (sortL xs)) else none
    | none => none
  | .tuple => match v.dat with
    | some (.list xs) => some (.d (.tuple xs))
    | some (.tuple xs) => some (.d (.tuple xs))
    | _ => none
  | .list => match v.dat with
    | some (.list xs) => some (.ol xs)
    | some (.tuple xs) => some (.ol xs)
    | _ => match v with
      | .scr ns => some (.ol (ns.map .int))
      | _ => none
  | .set => match v.dat with
    | some (.list xs) => if setOk xs then some (.os (dedup [] xs)) else none
    | some (.tuple xs) => if setOk xs then some (.os (dedup [] xs)) else none
    | _ => none
  | .dict => match v.dat with
    | some (.list xs) => match pairsOf xs with
      | some ps => if dictOk ps then some (.od (mergeD [] ps)) else none
      | none => none
    | _ => none
  | .all => match v.dat with
    | some (.list xs) => match allBools xs with
      | some bs => some (bl (bs.all id))
      | none => none
    | _ => none
  | .any => match v.dat with
    | some (.list xs) => match allBools xs with
      | some bs => some (bl (bs.any id))
      | none => none
    | _ => none
  | .sum => match v.dat with
    | some (.list xs) => match allInts xs with
      | some is => some (Mini.int is.sum)
      | none => none
    | _ => none
  | .repr => match v.dat with
    | some x => if showOk x then some (str x.shown) else none
    | none => none
  | .int => match v.dat with
    | some (.int i) => some (Mini.int i)
    | some (.bool b) => some (Mini.int (if b then 1 else 0))
    | _ => none
  | _ => none
def bi2 (b : Bi) (v u : Val) : Option Val := match b with
  | .min => match v.dat, u.dat with
    | some (.int i), some (.int j) => some (Mini.int (minI i j))
    | _, _ => none
  | .max => match v.dat, u.dat with
    | some (.int i), some (.int j) => some (Mini.int (maxI i j))
    | _, _ => none
  | _ => none
def biV (b : Bi) (as : List Val) : Option Val := match as with
  | [v] => bi1 b v
  | [v, u] => bi2 b v u
  | _ => none
/-! methods -/
inductive Me where
  | join | replace | get | split | startswith
def joinD (sep : Str) (xs : List PyData) : Option Val := match allStrs xs with
  | some ys => if decide ((ys.map (·.length)).sum + ys.length * sep.length ≤ 16777216) then some (str (Txt.join sep ys)) else none
  | none => none
def getDict (o k : Val) (x : PyData) : Option Val := match o.dat, k.dat with
  | some (.dict kvs), some k => if keysWith (kvs.map (·.1)) k then some (.d ((dGet kvs k).getD x)) else none
  | _, _ => none
def me1 (m : Me) (o v : Val) : Option Val := match m with
  | .join => match o.dat, v.dat with
    | some (.str sep), some (.list xs) => joinD sep xs
    | some (.str sep), some (.tuple xs) => joinD sep xs
    | _, _ => none
  | .get => getDict o v .none
  | .split => match o.dat, v.dat with
    | some (.str x), some (.str y) => if (y.length == 0) = false ∧ x.length + 2 ≤ sizeLine then some (.ol ((Txt.split x y).map .str)) else none
    | _, _ => none
  | .startswith => match o.dat, v.dat with
    | some (.str x), some (.str y) => some (bl (Txt.startswith x y))
    | _, _ => none
  | _ => none
def me2 (m : Me) (o v u : Val) : Option Val := match m with
  | .get => match u with
    | .d x => getDict o v x
    | _ => none
  | .startswith => match o.dat, v.dat, u.dat with
    | some (.str x), some (.str y), some (.int i) => some (bl (Txt.startswith3 x y i))
    | _, _, _ => none
  | _ => none
def meKnown : Me → Bool
  | .replace => false
  | _ => true
/-- what a method is asked of -/
def meTy (m : Me) (o : Val) : Bool := match m with
  | .get => match o.dat with
    | some (.dict _) => true
    | _ => false
  | _ => match o.dat with
    | some (.str _) => true
    | _ => false
def meV (m : Me) (o : Val) (as : List Val) : Option Val := match as with
  | [v] => me1 m o v
  | [v, u] => me2 m o v u
  | _ => none
inductive Ty where
  | int | bool | str | tuple | list | dict
def isiV (t : Ty) (v : Val) : Option Bool := match v.dat with
  | none => none
  | some x => match t, x with
    | .int, .int _ => some true
    | .int, .bool _ => some true
    | .bool, .bool _ => some true
    | .str, .str _ => some true
    | .tuple, .tuple _ => some true
    | .list, .list _ => some true
    | .dict, .dict _ => some true
    | _, _ => some false
end Mini

set_option Elab.async false
set_option linter.all false
set_option maxRecDepth 100000
namespace Mini
open PySem

instance : Monad M where
  pure := M.ret
  bind := M.bind

/-! ### the syntax -/
/-- a target: a name in a slot, or several -/
inductive Tg where
  | nm (i : Nat) (x : Str)
  | tp1 (a : Tg)
  | tp2 (a b : Tg)
  | tp3 (a b c : Tg)
  | tp4 (a b c d : Tg)
mutual
inductive E where
  | var (i : Nat) (x : Str)
  | int (n : Int)
  | str (x : Str)
  | bl (b : Bool)
  | non
  | glob (x : Str)
  | tup (es : Es)
  | lst (es : Es)
  | dic (ks vs : Es)
  | bin (op : BOp) (a b : E)
  | neg (a : E)
  | not (a : E)
  | cmp (op : COp) (a b : E)
  | cmp2 (op op' : COp) (a b c : E)
  | andV (es : Es)
  | orV (es : Es)
  | ite (t : Tst) (a b : E)
  | ix (a i : E)
  | sl (a : E) (lo hi : Oe)
  | rev (a : E)
  | bi (b : Bi) (es : Es)
  | me (m : Me) (o : E) (es : Es)
  | isi (a : E) (t : Ty)
  | call (f : Str) (es : Es)
  | lc (own : List (Str × Nat)) (tg : Tg) (it : Itr) (ts : Tsts) (elt : E)
  | lc2 (own : List (Str × Nat)) (tg : Tg) (it : Itr) (ts : Tsts) (own1 : List Nat) (tg1 : Tg) (it1 : Itr) (ts1 : Tsts) (elt : E)
  | sc (own : List (Str × Nat)) (tg : Tg) (it : Itr) (ts : Tsts) (elt : E)
  | sc2 (own : List (Str × Nat)) (tg : Tg) (it : Itr) (ts : Tsts) (own1 : List Nat) (tg1 : Tg) (it1 : Itr) (ts1 : Tsts) (elt : E)
  | dc (own : List (Str × Nat)) (tg : Tg) (it : Itr) (ts : Tsts) (k v : E)
  | fld (i : Nat) (x f : Str)
  | never
inductive Es where
  | nil
  | cons (e : E) (r : Es)
inductive Oe where
  | none
  | some (e : E)
inductive Tst where
  | e (a : E)
  | and (ts : Tsts)
  | or (ts : Tsts)
  | not (t : Tst)
inductive Tsts where
  | nil
  | cons (t : Tst) (r : Tsts)
inductive Itr where
  | pl (e : E)
  | rng1 (e : E)
  | rng2 (a b : E)
  | enm (e : E)
  | zip (a b : E)
  | items (e : E)
  | vals (e : E)
end

/-! ### what a call of a def comes to -/
inductive FOut where
  | ok (v : Val) (dr : Option Draw)
  | er (e : Err) (dr : Option Draw)
  | no
abbrev Fns := Str → List Val → Option Draw → FOut
structure Env where
  /-- the defs that may be called -/
  has : Str → Bool
  fns : Fns
  glob : Str → Option PyData
  /-- an error class: its parameters, and which are kept under which field -/
  exc : Str → Option (List Str × List (Str × Str))

/-! ### the state -/
def getSlot (i : Nat) : M Val := fun s => match s.ρ[i]? with
  | some (some v) => .ok v s
  | _ => .no
def setSlot (i : Nat) (v : Val) : M Unit := fun s => if i < s.ρ.length then .ok () { s with ρ := s.ρ.set i (some v) } else .no
/-- a name's value is put away -/
def useSlot (i : Nat) : M Val := fun s => match s.ρ[i]? with
  | some (some v) => if v.owned then (match v.frz with | some w => .ok w { s with ρ := s.ρ.set i (some w) } | none => .no) else .ok v s
  | _ => .no
def frzM (v : Val) : M Val := M.of v.frz
def datM (v : Val) : M PyData := M.of v.dat
/-- data, put away -/
def getD (v : Val) : Option PyData := match v.frz with
  | some (.d x) => some x
  | _ => none
def wipeR (ρ : List (Option Val)) : List Nat → List (Option Val)
  | [] => ρ
  | v :: vs => (wipeR ρ vs).set v none
/-- the slots at vs as they were in ρ₀ -/
def backR (ρ₀ ρ : List (Option Val)) : List Nat → List (Option Val)
  | [] => ρ
  | v :: vs => (backR ρ₀ ρ vs).set v ((ρ₀[v]?).getD none)
def wipeM (vs : List Nat) : M Unit := fun s => .ok () { s with ρ := wipeR s.ρ vs }
/-- a block: its own slots (which hold nothing that one name alone holds) are empty at first, and behind it as they were; no error leaves it -/
def blockM {α : Type} (vs : List Nat) (m : M α) : M α := fun s => if vs.all (fun v => match s.ρ[v]? with | some (some x) => !x.owned | _ => true) then match m { s with ρ := wipeR s.ρ vs } with
    | .ok a s' => .ok a { s' with ρ := backR s.ρ s'.ρ vs }
    | _ => .no
  else .no
def callM (fns : Fns) (f : Str) (vs : List Val) : M Val := fun s => match fns f vs s.dr with
  | .ok v dr => .ok v { s with dr := dr }
  | .er e dr => .er e { s with dr := dr }
  | .no => .no
def asgT : Tg → Val → M Unit
  | .nm i _, v => setSlot i v
  | .tp1 a, .d (.tuple [x]) => asgT a (.d x)
  | .tp2 a b, .d (.tuple [x, y]) => do asgT a (.d x); asgT b (.d y)
  | .tp3 a b c, .d (.tuple [x, y, z]) => do asgT a (.d x); asgT b (.d y); asgT c (.d z)
  | .tp4 a b c d, .d (.tuple [x, y, z, u]) => do asgT a (.d x); asgT b (.d y); asgT c (.d z); asgT d (.d u)
  | _, _ => M.no
/-- the turns of a list comprehension -/
def lcGo (step : PyData → M (Option PyData)) : List PyData → List PyData → M (List PyData)
  | [], acc => pure acc
  | x :: r, acc => do
    match ← step x with
    | some y => if acc.length < sizeLine then lcGo step r (acc ++ [y]) else M.no
    | none => lcGo step r acc
/-- a list comprehension's outer turns -/
def lcGo2 (step : PyData → List PyData → M (List PyData)) : List PyData → List PyData → M (List PyData)
  | [], acc => pure acc
  | x :: r, acc => do lcGo2 step r (← step x acc)
/-- the turns of a comprehension that fills a set or a dict -/
def cGo {α β : Type} (cond : α → β → Bool) (put : α → β → α) (step : PyData → M (Option β)) : List PyData → α → M α
  | [], acc => pure acc
  | x :: r, acc => do
    match ← step x with
    | some y => if cond acc y then cGo cond put step r (put acc y) else M.no
    | none => cGo cond put step r acc
def scCond (acc : List PyData) (y : PyData) : Bool := keysWith acc y && decide (acc.length < 60)
def dcCond (acc : List (PyData × PyData)) (p : PyData × PyData) : Bool := keysWith (acc.map (·.1)) p.1 && decide (acc.length < sizeLine)
def dcPut (acc : List (PyData × PyData)) (p : PyData × PyData) : List (PyData × PyData) := dPut acc p.1 p.2
def rngOk (i : Int) : Bool := decide (-(2 ^ 62) ≤ i) && decide (i < 2 ^ 62)
def rngL (lo hi : Int) : List PyData := (List.range (hi - lo).toNat).map fun k => PyData.int (lo + (k : Nat))
def enumL (n : Nat) : List PyData → List PyData
  | [] => []
  | x :: r => .tuple [.int (n : Int), x] :: enumL (n + 1) r
def zipL : List PyData → List PyData → List PyData
  | x :: r, y :: q => .tuple [x, y] :: zipL r q
  | _, _ => []
def signsL (z : Str) : List PyData := z.cps.toList.map fun c => PyData.str ⟨#[c]⟩
def itemsV (v : Val) : Option (List PyData) := match v with
  | .d (.list xs) => some xs
  | .d (.tuple xs) => some xs
  | .d (.str z) => some (signsL z)
  | .scr ns => some (ns.map .int)
  | _ => none
def boolM (v : Val) : M Bool := match v with
  | .d (.bool b) => pure b
  | _ => M.no
def dicOf : List Val → List Val → Option (List (PyData × PyData))
  | [], [] => some []
  | .d k :: ks, .d v :: vs => (dicOf ks vs).map ((k, v) :: ·)
  | _, _ => none
def datas : List Val → Option (List PyData)
  | [] => some []
  | .d x :: r => (datas r).map (x :: ·)
  | _ :: _ => none

section
variable (Γ : Env)
mutual
/-- m: the value is kept somewhere, so what a name alone held is put away -/
def ev : E → Bool → M Val
  | .var i _, m => if m then useSlot i else getSlot i
  | .int n, _ => pure (Mini.int n)
  | .str x, _ => pure (Mini.str x)
  | .bl b, _ => pure (Mini.bl b)
  | .non, _ => pure (.d .none)
  | .glob x, _ => do pure (.d (← M.of (Γ.glob x)))
  | .tup es, _ => do
    let xs ← M.of (datas (← evs es))
    if fits xs.length then pure (.d (.tuple xs)) else M.no
  | .lst es, _ => do
    let xs ← M.of (datas (← evs es))
    if fits xs.length then pure (.ol xs) else M.no
  | .dic .nil .nil, _ => pure (.od [])
  | .dic (.cons k .nil) (.cons v .nil), _ => do
    let a ← M.of (Mini.getD (← ev k true))
    let b ← M.of (Mini.getD (← ev v true))
    if dcCond [] (a, b) then pure (.od [(a, b)]) else M.no
  | .dic _ _, _ => M.no
  | .bin op a b, _ => do
    let x ← ev a false
    let y ← ev b false
    M.of (binV op x y)
  | .neg a, _ => do
    match ← ev a false with
    | .d (.int i) => pure (Mini.int (-i))
    | _ => M.no
  | .not a, _ => do
    let b ← boolM (← ev a false)
    pure (Mini.bl (!b))
  | .cmp op a b, _ => do
    let x ← ev a false
    let y ← ev b false
    pure (Mini.bl (← M.of (cmpV op x y)))
  | .cmp2 op op' a b c, _ => do
    let x ← ev a false
    let y ← ev b false
    if ← M.of (cmpV op x y) then do
      let z ← ev c false
      pure (Mini.bl (← M.of (cmpV op' y z)))
    else pure (Mini.bl false)
  | .andV es, _ => evAnd es
  | .orV es, _ => evOr es
  | .ite t a b, m => do if ← evt t then ev a m else ev b m
  | .ix a i, _ => do
    let x ← ev a false
    let k ← datM (← ev i false)
    pure (.d (← M.of (ixD x k)))
  | .sl a lo hi, _ => do
    let x ← ev a false
    let l ← evo lo
    let h ← evo hi
    M.of (slD x l h)
  | .rev a, _ => M.no
  | .bi b es, _ => do M.of (biV b (← evb es))
  | .me k o es, _ => if meKnown k then do
      let x ← ev o false
      if meTy k x then do M.of (meV k x (← evb es)) else M.no
    else M.no
  | .isi a t, _ => do pure (Mini.bl (← M.of (isiV t (← ev a false))))
  | .call f es, _ => if Γ.has f then do callM Γ.fns f (← evs es) else M.no
  | .lc own tg it ts elt, _ => do
    let xs ← evi it
    pure (.ol (← blockM (own.map (·.2)) (lcGo (fun x => do
      wipeM (own.map (·.2))
      asgT tg (.d x)
      if ← evts ts then pure (some (← M.of (Mini.getD (← ev elt true)))) else pure none) xs [])))
  | .lc2 own tg it ts own1 tg1 it1 ts1 elt, _ => M.no
  | .sc own tg it ts elt, _ => do
    let xs ← evi it
    pure (.os (← blockM (own.map (·.2)) (cGo scCond sPut (fun x => do
      wipeM (own.map (·.2))
      asgT tg (.d x)
      if ← evts ts then pure (some (← M.of (Mini.getD (← ev elt true)))) else pure none) xs [])))
  | .sc2 own tg it ts own1 tg1 it1 ts1 elt, _ => M.no
  | .dc own tg it ts k v, _ => do
    let xs ← evi it
    pure (.od (← blockM (own.map (·.2)) (cGo dcCond dcPut (fun x => do
      wipeM (own.map (·.2))
      asgT tg (.d x)
      if ← evts ts then do
        let a ← M.of (Mini.getD (← ev k true))
        let b ← M.of (Mini.getD (← ev v true))
        pure (some (a, b))
      else pure none) xs [])))
  | .fld i _ f, _ => do
    match ← getSlot i with
    | .er _ fs => do pure (.d (← M.of (fs.lookup f)))
    | _ => M.no
  | .never, _ => M.no
/-- arguments and parts of a display: put away -/
def evs : Es → M (List Val)
  | .nil => pure []
  | .cons e r => do
    let v ← frzM (← ev e true)
    pure (v :: (← evs r))
/-- arguments of built-in functions: looked at alone -/
def evb : Es → M (List Val)
  | .nil => pure []
  | .cons e r => do
    let v ← ev e false
    pure (v :: (← evb r))
def evo : Oe → M (Option Int)
  | .none => pure none
  | .some e => do
    match ← ev e false with
    | .d (.int i) => pure (some i)
    | _ => M.no
def evAnd : Es → M Val
  | .nil => M.no
  | .cons e .nil => do pure (Mini.bl (← boolM (← ev e false)))
  | .cons e (.cons e' r) => do if ← boolM (← ev e false) then evAnd (.cons e' r) else pure (Mini.bl false)
def evOr : Es → M Val
  | .nil => M.no
  | .cons e .nil => do pure (Mini.bl (← boolM (← ev e false)))
  | .cons e (.cons e' r) => do if ← boolM (← ev e false) then pure (Mini.bl true) else evOr (.cons e' r)
def evt : Tst → M Bool
  | .e a => do boolM (← ev a false)
  | .and ts => evts ts
  | .or ts => evto ts
  | .not t => do pure (!(← evt t))
/-- all of them, from the left -/
def evts : Tsts → M Bool
  | .nil => pure true
  | .cons t r => do if ← evt t then evts r else pure false
def evto : Tsts → M Bool
  | .nil => pure false
  | .cons t r => do if ← evt t then pure true else evto r
def evi : Itr → M (List PyData)
  | .pl e => do M.of (itemsV (← frzM (← ev e true)))
  | .rng1 e => do
    match ← ev e false with
    | .d (.int n) => if rngOk n then pure (rngL 0 n) else M.no
    | _ => M.no
  | .rng2 a b => do
    match ← ev a false with
    | .d (.int i) => do
      match ← ev b false with
      | .d (.int j) => if rngOk i && rngOk j then pure (rngL i j) else M.no
      | _ => M.no
    | _ => M.no
  | .enm e => do
    match ← frzM (← ev e true) with
    | .d (.list xs) => pure (enumL 0 xs)
    | .d (.tuple xs) => pure (enumL 0 xs)
    | _ => M.no
  | .zip a b => M.no
  | .items e => M.no
  | .vals e => M.no
end
end

/-! ### statements -/
inductive Flw where
  | nx
  | rt (v : Val)
  | bk
  | ct
/-- what an except suite stores -/
inductive Hx where
  | cst (x : PyData)
  | fld (f : Str)
  | lst (f : Str)
  | tp2 (f g : Str)
  | self
structure Hd where
  cls : List Str
  as : Option (Nat × Str)
  i : Nat
  x : Str
  hx : Hx
mutual
inductive S where
  | asg (tg : Tg) (e : E)
  | par (tg : Tg) (es : Es)
  | setIx (i : Nat) (x : Str) (k e : E)
  /-- its form alone is looked at -/
  | sub (o k e : E)
  | app (i : Nat) (x : Str) (e : E)
  | ext (i : Nat) (x : Str) (e : E)
  | aug (i : Nat) (x : Str) (op : BOp) (e : E)
  | ex (e : E)
  | ret (e : E)
  | retV (i : Nat) (x : Str)
  | ret0
  | ite (t : Tst) (a b : Ss)
  | whl (t : Tst) (b : Ss)
  | for_ (tg : Tg) (it : Itr) (b : Ss)
  | raise (c : Str) (es : Es)
  | tr (b : Ss) (h : Hd)
  | brk
  | cnt
  | pass
  | never
inductive Ss where
  | nil
  | cons (s : S) (r : Ss)
end
def forGo (step : PyData → M Flw) : List PyData → M Flw
  | [] => pure .nx
  | x :: r => do
    match ← step x with
    | .nx => forGo step r
    | .ct => forGo step r
    | .bk => pure .nx
    | .rt v => pure (.rt v)
def whGo (c : M Bool) (b : M Flw) : Nat → M Flw
  | 0 => M.no
  | n + 1 => do
    if ← c then do
      match ← b with
      | .nx => whGo c b n
      | .ct => whGo c b n
      | .bk => pure .nx
      | .rt v => pure (.rt v)
    else pure .nx
/-- more turns than any while of the text has -/
def turns : Nat := 1000000000
def putIx (v : Val) (k x : PyData) : Option Val := match v, k with
  | .ol xs, .int i => (ixOf xs.length i).map fun j => .ol (xs.set j x)
  | .od kvs, k => if keysWith (kvs.map (·.1)) k && decide (kvs.length < sizeLine) then some (.od (dPut kvs k x)) else none
  | _, _ => none
def isOl : Val → Bool
  | .ol _ => true
  | _ => false
def lstOf (v : Val) : Option (List PyData) := match v.dat with
  | some (.list ys) => some ys
  | _ => none
def appV (v : Val) (ys : List PyData) : Option Val := match v with
  | .ol xs => if fits (xs.length + ys.length) then some (.ol (xs ++ ys)) else none
  | _ => none
def augV (op : BOp) (v : Val) (w : Val) : Option Val := match op, v, w with
  | .add, .d (.int i), .d (.int j) => some (Mini.int (i + j))
  | .sub, .d (.int i), .d (.int j) => some (Mini.int (i - j))
  | _, _, _ => none
def fldD (ps : List Str) (xs : List PyData) (fs : List (Str × Str)) : List (Str × PyData) := (fs.map fun p => (p.1, ((ps.zip xs).lookup p.2).getD .none)).reverse
def excOf (Γ : Env) (c : Str) (xs : List PyData) : Option Err := match Γ.exc c with
  | some (ps, fs) => if ps.length = xs.length then some ⟨c, fldD ps xs fs⟩ else none
  | none => none
def Hx.val (e : Err) : Hx → Option Val
  | .cst x => some (.d x)
  | .fld f => (e.fs.lookup f).map .d
  | .lst f => (e.fs.lookup f).map fun x => .ol [x]
  | .tp2 f g => match e.fs.lookup f, e.fs.lookup g with
    | some x, some y => some (.d (.tuple [x, y]))
    | _, _ => none
  | .self => some (.er e.cls e.fs)
def asIn (as : Option (Nat × Str)) (n : Nat) : Bool := match as with
  | some (j, _) => decide (j < n)
  | none => true
def handle (h : Hd) (e : Err) (s : Sta) : Out Flw :=
  if h.cls.contains e.cls then match h.hx.val e with
    | some v => if h.i < s.ρ.length ∧ asIn h.as s.ρ.length = true then .ok .nx { s with ρ := match h.as with | some (j, _) => (s.ρ.set h.i (some v)).set j none | none => s.ρ.set h.i (some v) } else .no
    | none => .no
  else .er e s
/-- several values at once, not put away -/
def asgP : Tg → List Val → M Unit
  | .tp2 (.nm i _) (.nm j _), [v, w] => do setSlot i v; setSlot j w
  | .tp3 (.nm i _) (.nm j _) (.nm k _), [v, w, u] => do setSlot i v; setSlot j w; setSlot k u
  | .tp4 (.nm i _) (.nm j _) (.nm k _) (.nm l _), [v, w, u, z] => do setSlot i v; setSlot j w; setSlot k u; setSlot l z
  | _, _ => M.no
section
variable (Γ : Env)
def evp : Es → M (List Val)
  | .nil => pure []
  | .cons e r => do
    let v ← ev Γ e true
    pure (v :: (← evp r))
mutual
def exec : S → M Flw
  | .asg tg e => do asgT tg (← ev Γ e true); pure .nx
  | .par tg es => do asgP tg (← evp Γ es); pure .nx
  | .setIx i _ k e => do
    let v ← M.of (Mini.getD (← ev Γ e true))
    let _ ← getSlot i
    let k ← datM (← ev Γ k false)
    setSlot i (← M.of (putIx (← getSlot i) k v))
    pure .nx
  | .sub _ _ _ => M.no
  | .app i _ e => do
    if isOl (← getSlot i) then do
      let v ← M.of (Mini.getD (← ev Γ e true))
      setSlot i (← M.of (appV (← getSlot i) [v]))
      pure .nx
    else M.no
  | .ext i _ e => do
    if isOl (← getSlot i) then do
      let v ← ev Γ e false
      let ys ← M.of (lstOf v)
      setSlot i (← M.of (appV (← getSlot i) ys))
      pure .nx
    else M.no
  | .aug i _ op e => do
    let v ← getSlot i
    let w ← ev Γ e false
    setSlot i (← M.of (augV op v w))
    pure .nx
  | .ex e => do let _ ← ev Γ e true; pure .nx
  | .ret e => do pure (.rt (← ev Γ e true))
  | .retV i _ => do pure (.rt (← getSlot i))
  | .ret0 => pure (.rt (.d .none))
  | .ite t a b => do if ← evt Γ t then execs a else execs b
  | .whl t b => whGo (evt Γ t) (execs b) turns
  | .for_ tg it b => do
    let xs ← evi Γ it
    forGo (fun x => do asgT tg (.d x); execs b) xs
  | .raise c es => if (Γ.exc c).isSome then do
      let xs ← M.of (datas (← evs Γ es))
      let e ← M.of (excOf Γ c xs)
      fun s => .er e s
    else M.no
  | .tr b h => fun s => match execs b s with
    | .er e s' => handle h e s'
    | o => o
  | .brk => pure .bk
  | .cnt => pure .ct
  | .pass => pure .nx
  | .never => M.no
def execs : Ss → M Flw
  | .nil => pure .nx
  | .cons s r => do
    match ← exec s with
    | .nx => execs r
    | f => pure f
end
end
/-! ### defs -/
structure Fd where
  ps : List Str
  N : List Str
  body : Ss
def startR (n : Nat) (vs : List Val) : List (Option Val) := vs.map some ++ List.replicate (n - vs.length) none
def runFd (Γ : Env) (fd : Fd) (vs : List Val) (dr : Option Draw) : FOut :=
  if vs.length = fd.ps.length then match execs Γ fd.body ⟨startR fd.N.length vs, dr⟩ with
    | .ok (.rt v) s => .ok v s.dr
    | .ok .nx s => .ok (.d .none) s.dr
    | .ok _ _ => .no
    | .er e s => .er e s.dr
    | .no => .no
  else .no
/-- a text: its defs, its constants, its error classes; what is given by hand -/
structure Txt where
  fds : List (Str × Fd)
  glob : Str → Option PyData
  exc : Str → Option (List Str × List (Str × Str))
  prim : Str → Option (List Val → Option Draw → FOut)
def Txt.has (T : Txt) (f : Str) : Bool := (T.prim f).isSome || (T.fds.lookup f).isSome
def callN (T : Txt) : Nat → Fns
  | 0 => fun _ _ _ => .no
  | n + 1 => fun f vs dr => match T.prim f with
    | some p => p vs dr
    | none => match T.fds.lookup f with
      | some fd => runFd ⟨T.has, callN T n, T.glob, T.exc⟩ fd vs dr
      | none => .no
abbrev Txt.env (T : Txt) (n : Nat) : Env := ⟨T.has, callN T n, T.glob, T.exc⟩
end Mini

set_option Elab.async false
set_option linter.all false
set_option maxRecDepth 100000
set_option maxHeartbeats 2000000
namespace Mini
open PySem PySem.Spec PyProof.Rows L2

/-! ### data in the abstract heap -/
def hashD (w : World) (x : PyData) : Int := match toKey x with
  | some k => k.hash w
  | none => 0
def keysOk : List PyData → Bool
  | [] => true
  | k :: r => keysWith r k && !sHas r k && keysOk r
/-- an object as it is -/
def exO (a : Addr) (o : Obj) : HO := .ext fun h => h.get? a = some o
mutual
inductive Rp (w : World) (K : PySem.W.Frag) (H : Hp) : V → PyData → Prop
  | non : Rp w K H .non .none
  | bl (b : Bool) : Rp w K H (.bl b) (.bool b)
  | int (i : Int) : Rp w K H (.int i) (.int i)
  | str (x : Str) : Rp w K H (.str x) (.str x)
  | lst {a : Addr} {xs : List V} {ds : List PyData} : H a = some (.lst xs) → RpAll w K H xs ds → Rp w K H (.ref a) (.list ds)
  | tup {a : Addr} {xs : List V} {ds : List PyData} : SqT K H a xs → RpAll w K H xs ds → Rp w K H (.ref a) (.tuple ds)
  | dic {a : Addr} {o : Obj} {es : Array DictEntry} {ep : Nat} {kw vw : List V} {kvs : List (PyData × PyData)} : H a = some (exO a o) → (a == sysModules) = false → o.ExactDict → o.data = .dict es ep →
      Vals kw (es.toList.map (·.key)) → Vals vw (es.toList.map (·.val)) → RpAll w K H kw (kvs.map (·.1)) → RpAll w K H vw (kvs.map (·.2)) →
      es.toList.map (·.hash) = kvs.map (fun p => hashD w p.1) → keysOk (kvs.map (·.1)) = true → Rp w K H (.ref a) (.dict kvs)
inductive RpAll (w : World) (K : PySem.W.Frag) (H : Hp) : List V → List PyData → Prop
  | nil : RpAll w K H [] []
  | cons {v : V} {vs : List V} {d : PyData} {ds : List PyData} : Rp w K H v d → RpAll w K H vs ds → RpAll w K H (v :: vs) (d :: ds)
end
section
variable {w : World} {K : PySem.W.Frag} {H H' : Hp}
theorem Rd.same {a : Addr} {o : HO} (e : Same H H') (h : Rd H a o) : Rd H' a o := by
  rcases h with h | ⟨ob, h⟩
  · exact .inl (e _ _ h)
  · exact .inr ⟨ob, e _ _ h⟩
theorem SqL.same {a : Addr} {xs : List V} (e : Same H H') (h : SqL K H a xs) : SqL K H' a xs := h.imp (Rd.same e) id
theorem SqT.same {a : Addr} {xs : List V} (e : Same H H') (h : SqT K H a xs) : SqT K H' a xs := by
  rcases h with (h | ⟨o, h⟩) | h
  · exact .inl (.inl (e _ _ h))
  · exact .inl (.inr ⟨o, e _ _ h⟩)
  · exact .inr h
mutual
theorem Rp.mono (e : Same H H') : ∀ (d : PyData) (v : V), Rp w K H v d → Rp w K H' v d
  | .none, _, h => by cases h; exact .non
  | .bool b, _, h => by cases h; exact .bl b
  | .int b, _, h => by cases h; exact .int b
  | .str b, _, h => by cases h; exact .str b
  | .list ds, _, h => by
    cases h with
    | lst hs ha => exact .lst (e _ _ hs) (RpAll.mono e ds _ ha)
  | .tuple ds, _, h => by
    cases h with
    | tup hs ha => exact .tup (SqT.same e hs) (RpAll.mono e ds _ ha)
  | .dict kvs, _, h => by
    cases h with
    | dic h1 h2 h3 h4 h5 h6 h7 h8 h9 h10 => exact .dic (e _ _ h1) h2 h3 h4 h5 h6 (RpAll.monoF e kvs _ h7) (RpAll.monoS e kvs _ h8) h9 h10
theorem RpAll.mono (e : Same H H') : ∀ (ds : List PyData) (vs : List V), RpAll w K H vs ds → RpAll w K H' vs ds
  | [], _, h => by cases h; exact .nil
  | d :: ds, _, h => by
    cases h with
    | cons h1 h2 => exact .cons (Rp.mono e d _ h1) (RpAll.mono e ds _ h2)
theorem RpAll.monoF (e : Same H H') : ∀ (ds : List (PyData × PyData)) (vs : List V), RpAll w K H vs (ds.map (·.1)) → RpAll w K H' vs (ds.map (·.1))
  | [], _, h => by cases h; exact .nil
  | (d, y) :: ds, _, h => by
    cases h with
    | cons h1 h2 => exact .cons (Rp.mono e d _ h1) (RpAll.monoF e ds _ h2)
theorem RpAll.monoS (e : Same H H') : ∀ (ds : List (PyData × PyData)) (vs : List V), RpAll w K H vs (ds.map (·.2)) → RpAll w K H' vs (ds.map (·.2))
  | [], _, h => by cases h; exact .nil
  | (x, d) :: ds, _, h => by
    cases h with
    | cons h1 h2 => exact .cons (Rp.mono e d _ h1) (RpAll.monoS e ds _ h2)
end
theorem RpAll.length : ∀ {vs : List V} {ds : List PyData}, RpAll w K H vs ds → vs.length = ds.length
  | _, _, .nil => rfl
  | _, _, .cons _ h => by simp [RpAll.length h]
theorem RpAll.get : ∀ {vs : List V} {ds : List PyData} {i : Nat} {d : PyData}, RpAll w K H vs ds → ds[i]? = some d → ∃ v, vs[i]? = some v ∧ Rp w K H v d
  | _, _, _, _, .nil, e => by simp at e
  | _, _, 0, _, .cons h _, e => by simp at e; subst e; exact ⟨_, rfl, h⟩
  | _, _, i + 1, _, .cons _ h, e => by
    obtain ⟨v, h1, h2⟩ := RpAll.get h (by simpa using e)
    exact ⟨v, by simpa using h1, h2⟩
theorem RpAll.get' : ∀ {vs : List V} {ds : List PyData} {i : Nat} {v : V}, RpAll w K H vs ds → vs[i]? = some v → ∃ d, ds[i]? = some d ∧ Rp w K H v d
  | _, _, _, _, .nil, e => by simp at e
  | _, _, 0, _, .cons h _, e => by simp at e; subst e; exact ⟨_, rfl, h⟩
  | _, _, i + 1, _, .cons _ h, e => by
    obtain ⟨v, h1, h2⟩ := RpAll.get' h (by simpa using e)
    exact ⟨v, by simpa using h1, h2⟩
theorem RpAll.append : ∀ {vs ws : List V} {ds es : List PyData}, RpAll w K H vs ds → RpAll w K H ws es → RpAll w K H (vs ++ ws) (ds ++ es)
  | _, _, _, _, .nil, h => h
  | _, _, _, _, .cons h1 h2, h => .cons h1 (RpAll.append h2 h)
theorem RpAll.take : ∀ {vs : List V} {ds : List PyData} (n : Nat), RpAll w K H vs ds → RpAll w K H (vs.take n) (ds.take n)
  | _, _, 0, _ => by simp; exact .nil
  | _, _, _ + 1, .nil => by simp; exact .nil
  | _, _, n + 1, .cons h1 h2 => by simp only [List.take_succ_cons]; exact .cons h1 (RpAll.take n h2)
theorem RpAll.drop : ∀ {vs : List V} {ds : List PyData} (n : Nat), RpAll w K H vs ds → RpAll w K H (vs.drop n) (ds.drop n)
  | _, _, 0, h => h
  | _, _, _ + 1, .nil => by simp; exact .nil
  | _, _, n + 1, .cons h1 h2 => by simp only [List.drop_succ_cons]; exact RpAll.drop n h2
theorem RpAll.set {x : V} {y : PyData} (h : Rp w K H x y) : ∀ {vs : List V} {ds : List PyData} (n : Nat), RpAll w K H vs ds → RpAll w K H (vs.set n x) (ds.set n y)
  | _, _, _, .nil => .nil
  | _, _, 0, .cons _ t => .cons h t
  | _, _, n + 1, .cons q t => .cons q (RpAll.set h n t)
theorem RpAll.reverse : ∀ {vs : List V} {ds : List PyData}, RpAll w K H vs ds → RpAll w K H vs.reverse ds.reverse
  | _, _, .nil => .nil
  | _, _, .cons h t => by
    rw [List.reverse_cons, List.reverse_cons]
    exact (RpAll.reverse t).append (.cons h .nil)
end
/-! flat data -/
def flatD : PyData → Bool
  | .none | .bool _ | .int _ | .str _ => true
  | _ => false
def toV : PyData → V
  | .none => .non
  | .bool b => .bl b
  | .int i => .int i
  | .str x => .str x
  | _ => .non
theorem Rp.flat {w : World} {K : PySem.W.Frag} {H : Hp} {x : PyData} (h : flatD x = true) : Rp w K H (toV x) x := by
  match x, h with
  | .none, _ => exact .non
  | .bool b, _ => exact .bl b
  | .int i, _ => exact .int i
  | .str y, _ => exact .str y
theorem Rp.flat_eq {w : World} {K : PySem.W.Frag} {H : Hp} {x : PyData} {v : V} (h : flatD x = true) (r : Rp w K H v x) : v = toV x := by
  match x, h, r with
  | .none, _, .non => rfl
  | .bool b, _, .bl _ => rfl
  | .int i, _, .int _ => rfl
  | .str y, _, .str _ => rfl
section
variable {X : Cx} {pins : List (Addr × Obj)} {σ : L2.St} {H : Hp} {s : Shared}
mutual
theorem Rp.reads (I : Inv X pins σ H s) : ∀ (d : PyData) (v : V) (u : Value), Rp X.w X.K H v d → RelV v u → ∃ as, Reads s.heap u d as
  | .none, _, _, h, r => by cases h; cases r; exact ⟨_, Reads.none⟩
  | .bool b, _, _, h, r => by cases h; cases r; exact ⟨_, Reads.bool b⟩
  | .int i, _, _, h, r => by cases h; obtain ⟨t, rfl⟩ := r; exact ⟨_, Reads.int i t⟩
  | .str x, _, _, h, r => by cases h; obtain ⟨t, rfl⟩ := r; exact ⟨_, Reads.str x t⟩
  | .list ds, _, _, h, r => by
    cases h with
    | lst hs ha =>
      cases r
      obtain ⟨its, rv, ⟨o, n, ho, hc, _, hd⟩, _⟩ := I.list (.inl (.inl hs))
      obtain ⟨as, hr⟩ := Rp.readsAll I ds _ its ha rv
      exact ⟨_, Reads.list ho hc hd hr⟩
  | .tuple ds, _, _, h, r => by
    cases h with
    | tup hs ha =>
      cases r
      obtain ⟨its, rv, ⟨o, ho, hc, n, hd⟩, _⟩ := I.tuple hs
      obtain ⟨as, hr⟩ := Rp.readsAll I ds _ its ha rv
      exact ⟨_, Reads.tuple ho hc hd hr⟩
  | .dict kvs, _, _, h, r => by
    cases h with
    | dic h1 h2 h3 h4 h5 h6 h7 h8 h9 h10 =>
      cases r
      obtain ⟨q, _, _⟩ := I.hok _ _ h1
      obtain ⟨as, ha⟩ := Rp.readsF I kvs _ _ h7 h5
      obtain ⟨bs, hb⟩ := Rp.readsS I kvs _ _ h8 h6
      exact ⟨_, Reads.dict q h3.1 h4 ha hb⟩
theorem Rp.readsAll (I : Inv X pins σ H s) : ∀ (ds : List PyData) (vs : List V) (us : List Value), RpAll X.w X.K H vs ds → Vals vs us → ∃ as, ReadsAll s.heap us ds as
  | [], _, _, h, r => by cases h; cases r; exact ⟨_, ReadsAll.nil⟩
  | d :: ds, _, _, h, r => by
    cases h with
    | cons h1 h2 =>
      cases r with
      | cons r1 r2 =>
        obtain ⟨as, q1⟩ := Rp.reads I d _ _ h1 r1
        obtain ⟨bs, q2⟩ := Rp.readsAll I ds _ _ h2 r2
        exact ⟨_, ReadsAll.cons q1 q2⟩
theorem Rp.readsF (I : Inv X pins σ H s) : ∀ (ds : List (PyData × PyData)) (vs : List V) (us : List Value), RpAll X.w X.K H vs (ds.map (·.1)) → Vals vs us → ∃ as, ReadsAll s.heap us (ds.map (·.1)) as
  | [], _, _, h, r => by cases h; cases r; exact ⟨_, ReadsAll.nil⟩
  | (d, y) :: ds, _, _, h, r => by
    cases h with
    | cons h1 h2 =>
      cases r with
      | cons r1 r2 =>
        obtain ⟨as, q1⟩ := Rp.reads I d _ _ h1 r1
        obtain ⟨bs, q2⟩ := Rp.readsF I ds _ _ h2 r2
        exact ⟨_, ReadsAll.cons q1 q2⟩
theorem Rp.readsS (I : Inv X pins σ H s) : ∀ (ds : List (PyData × PyData)) (vs : List V) (us : List Value), RpAll X.w X.K H vs (ds.map (·.2)) → Vals vs us → ∃ as, ReadsAll s.heap us (ds.map (·.2)) as
  | [], _, _, h, r => by cases h; cases r; exact ⟨_, ReadsAll.nil⟩
  | (x, d) :: ds, _, _, h, r => by
    cases h with
    | cons h1 h2 =>
      cases r with
      | cons r1 r2 =>
        obtain ⟨as, q1⟩ := Rp.reads I d _ _ h1 r1
        obtain ⟨bs, q2⟩ := Rp.readsS I ds _ _ h2 r2
        exact ⟨_, ReadsAll.cons q1 q2⟩
end
end
theorem ints_rp {w : World} {K : PySem.W.Frag} {H : Hp} : ∀ ns : List Int, RpAll w K H (ns.map V.int) (ns.map PyData.int)
  | [] => .nil
  | n :: r => .cons (.int n) (ints_rp r)
end Mini

set_option Elab.async false
set_option linter.all false
set_option maxRecDepth 100000
set_option maxHeartbeats 2000000
namespace Mini
open PySem PySem.Spec PyProof.Rows L2

/-! ### what a value of Mini is in the abstract heap -/
def DicAt (w : World) (K : PySem.W.Frag) (Hf H : Hp) (a : Addr) (kvs : List (PyData × PyData)) : Prop :=
  ∃ (o : Obj) (es : Array DictEntry) (ep : Nat) (kw vw : List V), H a = some (exO a o) ∧ (a == sysModules) = false ∧ o.ExactDict ∧ o.data = .dict es ep ∧
    Vals kw (es.toList.map (·.key)) ∧ Vals vw (es.toList.map (·.val)) ∧ RpAll w K Hf kw (kvs.map (·.1)) ∧ RpAll w K Hf vw (kvs.map (·.2)) ∧
    es.toList.map (·.hash) = kvs.map (fun p => hashD w p.1) ∧ keysOk (kvs.map (·.1)) = true
/-- a set's entry is the thing d -/
def E3 (w : World) (K : PySem.W.Frag) (Hf : Hp) (e : Int × Value) (d : PyData) : Prop := ∃ v, RelV v e.2 ∧ Rp w K Hf v d ∧ e.1 = hashD w d
theorem E3.mono {w : World} {K : PySem.W.Frag} {Hf Hf' : Hp} (s : Same Hf Hf') : ∀ {es : List (Int × Value)} {ds : List PyData}, Paired (E3 w K Hf) es ds → Paired (E3 w K Hf') es ds
  | _, _, .nil => .nil
  | _, _, .cons ⟨v, h1, h2, h3⟩ t => .cons ⟨v, h1, Rp.mono s _ _ h2, h3⟩ (E3.mono s t)
def SetAt (w : World) (K : PySem.W.Frag) (Hf H : Hp) (a : Addr) (xs : List PyData) : Prop :=
  ∃ (o : Obj) (es : Array (Int × Value)) (ep : Nat) (t : SetTable) (ys : List PyData), H a = some (exO a o) ∧ o.ExactSet ∧ o.data = .set es ep t ∧
    Paired (E3 w K Hf) es.toList ys ∧ ys.Perm xs ∧ t.fits es.size = true ∧ Ris t.place.toList ∧ (w.params.followText "set-order" = true ∨ t.led = true) ∧
    keysOk xs = true ∧ xs.length < 4000 ∧ (xs.all isTupD = true → TabOk t (es.toList.map (·.1)) ∧ xs.length * 5 < t.mask * 3 ∧ xs.length < 64)
/-- where the draws stand: the dict, the list of what is left, the list of the cells -/
abbrev Loc3 := Option (Addr × Addr × Addr)
def DrawAt (H : Hp) (a l c : Addr) (d : Draw) : Prop :=
  H a = some (.dK [(.inr "cells", .ref c), (.inr "left", .ref l), (.inr "at", .int d.count)]) ∧ H c = some (.lst (d.cells.map V.int)) ∧ H l = some (.lst (d.left.map V.int)) ∧ l ≠ c
def Dr : Loc3 → Addr → Prop
  | some (a, l, _), b => b = a ∨ b = l
  | none, _ => False
def DrAll : Loc3 → Addr → Prop
  | some (a, l, c), b => b = a ∨ b = l ∨ b = c
  | none, _ => False
theorem Dr.all {L : Loc3} {b : Addr} (h : Dr L b) : DrAll L b := by
  match L, h with
  | some (_, _, _), .inl e => exact .inl e
  | some (_, _, _), .inr e => exact .inr (.inl e)
def DrOk (Hf H : Hp) : Loc3 → Option Draw → Prop
  | some (a, l, c), some d => DrawAt H a l c d ∧ Hf a = none ∧ Hf l = none
  | none, _ => True
  | _, _ => False
def LStep : Loc3 → Loc3 → Prop
  | some (a, _, c), L' => ∃ l', L' = some (a, l', c)
  | none, _ => True
theorem LStep.refl : ∀ L, LStep L L
  | some (_, l, _) => ⟨l, rfl⟩
  | none => trivial
theorem LStep.trans {L L' L'' : Loc3} (h : LStep L L') (h' : LStep L' L'') : LStep L L'' := by
  match L with
  | none => trivial
  | some (a, l, c) =>
    obtain ⟨l', rfl⟩ := h
    exact h'
def RV (w : World) (K : PySem.W.Frag) (Hf H : Hp) (L : Loc3) : V → Val → Prop
  | v, .d x => Rp w K Hf v x
  | v, .ol xs => ∃ a vs, v = .ref a ∧ H a = some (.lst vs) ∧ RpAll w K Hf vs xs ∧ ¬ DrAll L a
  | v, .od kvs => ∃ a, v = .ref a ∧ DicAt w K Hf H a kvs ∧ ¬ DrAll L a
  | v, .os xs => ∃ a, v = .ref a ∧ SetAt w K Hf H a xs ∧ ¬ DrAll L a
  | v, .drw => ∃ a l c, L = some (a, l, c) ∧ v = .ref a
  | v, .scr ns => ∃ a, v = .ref a ∧ SqL K Hf a (ns.map V.int)
  | _, .er _ _ => False

/-- what is fixed for a def's run: the heap at its entry, what of it is put away, what the draws may change, where they stand -/
structure Fx where
  H0 : Hp
  Hf0 : Hp
  L0 : Loc3
structure Pt where
  S : Sta
  Hf : Hp
  L : Loc3
def SlotOwn (p : Pt) (σ : L2.St) (b : Addr) : Prop := ∃ (i : Nat) (v : Val), p.S.ρ[i]? = some (some v) ∧ v.owned = true ∧ σ[i]? = some (some (.ref b))
structure Sim (w : World) (K : PySem.W.Frag) (fx : Fx) (p : Pt) (H : Hp) (σ : L2.St) : Prop where
  sub : Same p.Hf H
  len : p.S.ρ.length = σ.length
  slot : ∀ (i : Nat) (v : Val), p.S.ρ[i]? = some (some v) → ∃ u : V, σ[i]? = some (some u) ∧ RV w K p.Hf H p.L u v
  own : ∀ b, SlotOwn p σ b → p.Hf b = none ∧ fx.H0 b = none
  apart : ∀ (i j : Nat) (v v' : Val) (a : Addr), i ≠ j → p.S.ρ[i]? = some (some v) → p.S.ρ[j]? = some (some v') → v.owned = true → v'.owned = true → σ[i]? = some (some (.ref a)) → σ[j]? = some (some (.ref a)) → False
  dr : DrOk p.Hf H p.L p.S.dr
  dr0 : ∀ b, Dr p.L b → Dr fx.L0 b ∨ fx.H0 b = none
  drA : ∀ b, DrAll p.L b → DrAll fx.L0 b ∨ fx.H0 b = none
  base : ∀ b o, fx.H0 b = some o → ¬ Dr fx.L0 b → H b = some o
  newf : ∀ b o, p.Hf b = some o → fx.Hf0 b = some o ∨ fx.H0 b = none
  hf0 : Same fx.Hf0 p.Hf
  ex0 : ∀ b o, fx.H0 b = some o → ∃ o', H b = some o'
  l0 : LStep fx.L0 p.L
/-- an expression was looked at: nothing that stood is changed, but for the draws -/
structure Step (p : Pt) (H : Hp) (p' : Pt) (H' : Hp) (σ : L2.St) : Prop where
  hf : Same p.Hf p'.Hf
  keep : ∀ b o, H b = some o → ¬ Dr p.L b → H' b = some o
  ex : ∀ b o, H b = some o → ∃ o', H' b = some o'
  nf : ∀ b o, p'.Hf b = some o → p.Hf b = some o ∨ H b = none ∨ SlotOwn p σ b
  so : ∀ b, SlotOwn p' σ b → SlotOwn p σ b
  drA : ∀ b, DrAll p'.L b → DrAll p.L b ∨ H b = none
  drk : ∀ b, Dr p'.L b → Dr p.L b ∨ H b = none
  l : LStep p.L p'.L
section
variable {w : World} {K : PySem.W.Frag} {fx : Fx} {p p1 p2 : Pt} {H H1 H2 : Hp} {σ : L2.St}
theorem Step.refl (p : Pt) (H : Hp) (σ : L2.St) : Step p H p H σ :=
  ⟨Same.refl _, fun _ _ h _ => h, fun _ o h => ⟨o, h⟩, fun _ _ h => .inl h, fun _ h => h, fun _ h => .inl h, fun _ h => .inl h, LStep.refl _⟩
theorem Step.none_of (a : Step p H p1 H1 σ) {b : Addr} (h : H1 b = none) : H b = none := by
  cases q : H b with
  | none => rfl
  | some o =>
    obtain ⟨o', e⟩ := a.ex b o q
    rw [e] at h
    cases h
theorem Sim.drSome (s : Sim w K fx p H σ) {b : Addr} (h : DrAll p.L b) : ∃ o, H b = some o := by
  have d := s.dr
  match p, h, d with
  | ⟨⟨ρ, some dr⟩, Hf, some (a, l, c)⟩, h, d =>
    obtain ⟨⟨h1, h2, h3, _⟩, _, _⟩ := d
    rcases h with e | e | e
    · rw [e]; exact ⟨_, h1⟩
    · rw [e]; exact ⟨_, h3⟩
    · rw [e]; exact ⟨_, h2⟩
  | ⟨⟨ρ, none⟩, Hf, some (a, l, c)⟩, _, d => exact d.elim
theorem Sim.slotSome (s : Sim w K fx p H σ) {b : Addr} (h : SlotOwn p σ b) : (∃ o, H b = some o) ∧ ¬ DrAll p.L b := by
  obtain ⟨i, v, h1, h2, h3⟩ := h
  obtain ⟨u, h4, h5⟩ := s.slot i v h1
  rw [h3] at h4
  cases h4
  cases v with
  | ol xs => obtain ⟨a, vs, e, h, _, n⟩ := h5; cases e; exact ⟨⟨_, h⟩, n⟩
  | od xs => obtain ⟨a, e, ⟨_, _, _, _, _, h, _⟩, n⟩ := h5; cases e; exact ⟨⟨_, h⟩, n⟩
  | os xs => obtain ⟨a, e, ⟨_, _, _, _, _, h, _⟩, n⟩ := h5; cases e; exact ⟨⟨_, h⟩, n⟩
  | d _ => cases h2
  | drw => cases h2
  | scr _ => cases h2
  | er _ _ => cases h2
theorem Step.trans (a : Step p H p1 H1 σ) (b : Step p1 H1 p2 H2 σ) : Step p H p2 H2 σ where
  hf := a.hf.trans b.hf
  keep := fun c o h hd => b.keep c o (a.keep c o h hd) fun hd1 => (a.drk c hd1).elim hd fun z => by rw [h] at z; cases z
  ex := fun c o h => let ⟨o', h'⟩ := a.ex c o h; b.ex c o' h'
  nf := fun c o h => by
    rcases b.nf c o h with h | h | h
    · exact a.nf c o h
    · exact .inr (.inl (a.none_of h))
    · exact .inr (.inr (a.so c h))
  so := fun c h => a.so c (b.so c h)
  drA := fun c h => by
    rcases b.drA c h with h | h
    · exact a.drA c h
    · exact .inr (a.none_of h)
  drk := fun c h => by
    rcases b.drk c h with h | h
    · exact a.drk c h
    · exact .inr (a.none_of h)
  l := a.l.trans b.l

theorem RV.step {v : V} {val : Val} (a : Step p H p1 H1 σ) (h : RV w K p.Hf H p.L v val) : RV w K p1.Hf H1 p1.L v val := by
  have nd : ∀ {b : Addr} {o : HO}, H b = some o → ¬ DrAll p.L b → ¬ DrAll p1.L b := fun {b o} e n z => (a.drA b z).elim n fun z => by rw [e] at z; cases z
  cases val with
  | d x => exact Rp.mono a.hf x v h
  | ol xs =>
    obtain ⟨b, vs, e, h1, h2, h3⟩ := h
    exact ⟨b, vs, e, a.keep b _ h1 fun z => h3 z.all, RpAll.mono a.hf _ _ h2, nd h1 h3⟩
  | od xs =>
    obtain ⟨b, e, ⟨o, es, ep, kw, vw, h1, h2, h3, h4, h5, h6, h7, h8, h9⟩, n⟩ := h
    exact ⟨b, e, ⟨o, es, ep, kw, vw, a.keep b _ h1 fun z => n z.all, h2, h3, h4, h5, h6, RpAll.mono a.hf _ _ h7, RpAll.mono a.hf _ _ h8, h9⟩, nd h1 n⟩
  | os xs =>
    obtain ⟨b, e, ⟨o, es, ep, t, ys, h1, h2, h3, h5, h6⟩, n⟩ := h
    exact ⟨b, e, ⟨o, es, ep, t, ys, a.keep b _ h1 fun z => n z.all, h2, h3, E3.mono a.hf h5, h6⟩, nd h1 n⟩
  | drw =>
    obtain ⟨x, l, c, e, e2⟩ := h
    have al := a.l
    rw [e] at al
    obtain ⟨l', e3⟩ := al
    exact ⟨x, l', c, e3, e2⟩
  | scr ns => obtain ⟨b, e, h1⟩ := h; exact ⟨b, e, SqL.same a.hf h1⟩
  | er _ _ => exact h
inductive RVs (w : World) (K : PySem.W.Frag) (Hf H : Hp) (L : Loc3) : List V → List Val → Prop
  | nil : RVs w K Hf H L [] []
  | cons {v : V} {vs : List V} {x : Val} {xs : List Val} : RV w K Hf H L v x → RVs w K Hf H L vs xs → RVs w K Hf H L (v :: vs) (x :: xs)
theorem RVs.step (a : Step p H p1 H1 σ) : ∀ {vs : List V} {xs : List Val}, RVs w K p.Hf H p.L vs xs → RVs w K p1.Hf H1 p1.L vs xs
  | _, _, .nil => .nil
  | _, _, .cons h r => .cons (h.step a) (RVs.step a r)
theorem RVs.length : ∀ {Hf H : Hp} {L : Loc3} {vs : List V} {xs : List Val}, RVs w K Hf H L vs xs → vs.length = xs.length
  | _, _, _, _, _, .nil => rfl
  | _, _, _, _, _, .cons _ r => by simp [RVs.length r]
theorem Same.updR {H H' : Hp} {q : Addr} {o : HO} (e : Same H H') (h : H q = none) : Same H (upd H' q o) := fun b x hb => by
  rw [upd_ne (ne_of_none hb h)]
  exact e b x hb
theorem Same.upd2 {H H' : Hp} {q : Addr} {o : HO} (e : Same H H') : Same (upd H q o) (upd H' q o) := fun b x hb => by
  by_cases z : b = q
  · subst z; rw [upd_same] at hb ⊢; exact hb
  · rw [upd_ne z] at hb ⊢; exact e b x hb
theorem Same.lay {H : Hp} {q : Addr} {o : HO} (h : H q = none) : Same H (upd H q o) := Same.updR (Same.refl H) h
theorem RV.lay {Hf H : Hp} {L : Loc3} {q : Addr} {o : HO} {v : V} {val : Val} {Hf' : Hp} (e : Same Hf Hf') (hq : H q = none) (h : RV w K Hf H L v val) : RV w K Hf' (upd H q o) L v val := by
  have k : ∀ {b : Addr} {x : HO}, H b = some x → upd H q o b = some x := fun {b x} hb => Same.lay hq b x hb
  cases val with
  | d x => exact Rp.mono e x v h
  | ol xs => obtain ⟨b, vs, e', h1, h2, h3⟩ := h; exact ⟨b, vs, e', k h1, RpAll.mono e _ _ h2, h3⟩
  | od xs =>
    obtain ⟨b, e', ⟨o, es, ep, kw, vw, h1, h2, h3, h4, h5, h6, h7, h8, h9⟩, n⟩ := h
    exact ⟨b, e', ⟨o, es, ep, kw, vw, k h1, h2, h3, h4, h5, h6, RpAll.mono e _ _ h7, RpAll.mono e _ _ h8, h9⟩, n⟩
  | os xs =>
    obtain ⟨b, e', ⟨o, es, ep, t, ys, h1, h2, h3, h5, h6⟩, n⟩ := h
    exact ⟨b, e', ⟨o, es, ep, t, ys, k h1, h2, h3, E3.mono e h5, h6⟩, n⟩
  | drw => exact h
  | scr ns => obtain ⟨b, e', h1⟩ := h; exact ⟨b, e', SqL.same e h1⟩
  | er _ _ => exact h
theorem DrOk.lay {Hf H Hf' H' : Hp} {L : Loc3} {dr : Option Draw} (h : DrOk Hf H L dr) (k : ∀ b o, H b = some o → DrAll L b → H' b = some o) (kf : ∀ b, Dr L b → Hf b = none → Hf' b = none) : DrOk Hf' H' L dr := by
  match L, dr, h with
  | some (a, l, c), some d, ⟨⟨h1, h2, h3, h4⟩, h5, h6⟩ => exact ⟨⟨k _ _ h1 (.inl rfl), k _ _ h2 (.inr (.inr rfl)), k _ _ h3 (.inr (.inl rfl)), h4⟩, kf a (.inl rfl) h5, kf l (.inr rfl) h6⟩
  | none, _, _ => trivial
theorem Sim.h0 (s : Sim w K fx p H σ) {b : Addr} (h : H b = none) : fx.H0 b = none := by
  cases q : fx.H0 b with
  | none => rfl
  | some o =>
    obtain ⟨o', e⟩ := s.ex0 b o q
    rw [e] at h
    cases h
/-- a new object, not put away -/
theorem Sim.layO (s : Sim w K fx p H σ) {q : Addr} {o : HO} (hq : H q = none) : Sim w K fx p (upd H q o) σ ∧ Step p H p (upd H q o) σ := by
  have k : ∀ b x, H b = some x → upd H q o b = some x := Same.lay hq
  refine ⟨⟨s.sub.trans k, s.len, fun i v h => ?_, s.own, s.apart, s.dr.lay (fun b x e _ => k b x e) fun _ _ e => e, s.dr0, s.drA, fun b x e n => k b x (s.base b x e n), s.newf, s.hf0, fun b x e => ?_, s.l0⟩,
    ⟨Same.refl _, fun b x e _ => k b x e, fun b x e => ⟨x, k b x e⟩, fun _ _ e => .inl e, fun _ e => e, fun _ e => .inl e, fun _ e => .inl e, LStep.refl _⟩⟩
  · obtain ⟨u, h1, h2⟩ := s.slot i v h
    exact ⟨u, h1, h2.lay (Same.refl _) hq⟩
  · obtain ⟨x', e'⟩ := s.ex0 b x e
    exact ⟨x', k b x' e'⟩
/-- a new object, put away -/
theorem Sim.layF (s : Sim w K fx p H σ) {q : Addr} {o : HO} (hq : H q = none) : Sim w K fx { p with Hf := upd p.Hf q o } (upd H q o) σ ∧ Step p H { p with Hf := upd p.Hf q o } (upd H q o) σ := by
  have k : ∀ b x, H b = some x → upd H q o b = some x := Same.lay hq
  have hfq : p.Hf q = none := by
    cases z : p.Hf q with
    | none => rfl
    | some x => rw [s.sub q x z] at hq; cases hq
  have kf : Same p.Hf (upd p.Hf q o) := Same.lay hfq
  have nq : ∀ {b : Addr} {x : HO}, H b = some x → b ≠ q := fun e z => by rw [z, hq] at e; cases e
  refine ⟨⟨Same.upd2 s.sub, s.len, fun i v h => ?_, fun b h => ?_, s.apart, s.dr.lay (fun b x e _ => k b x e) fun b hb e => ?_, s.dr0, s.drA, fun b x e n => k b x (s.base b x e n), fun b x e => ?_, s.hf0.trans kf, fun b x e => ?_, s.l0⟩,
    ⟨kf, fun b x e _ => k b x e, fun b x e => ⟨x, k b x e⟩, fun b x e => ?_, fun _ e => e, fun _ e => .inl e, fun _ e => .inl e, LStep.refl _⟩⟩
  · obtain ⟨u, h1, h2⟩ := s.slot i v h
    exact ⟨u, h1, h2.lay kf hq⟩
  · obtain ⟨⟨x, e⟩, _⟩ := s.slotSome h
    exact ⟨by show upd p.Hf q o b = none; rw [upd_ne (nq e)]; exact (s.own b h).1, (s.own b h).2⟩
  · obtain ⟨x, z⟩ := s.drSome hb.all
    show upd p.Hf q o b = none
    rw [upd_ne (nq z)]; exact e
  · by_cases z : b = q
    · subst z; exact .inr (s.h0 hq)
    · have e' : p.Hf b = some x := by have e' : upd p.Hf q o b = some x := e; rw [upd_ne z] at e'; exact e'
      exact s.newf b x e'
  · obtain ⟨x', e'⟩ := s.ex0 b x e
    exact ⟨x', k b x' e'⟩
  · by_cases z : b = q
    · subst z; exact .inr (.inl hq)
    · have e' : upd p.Hf q o b = some x := e
      rw [upd_ne z] at e'
      exact .inl e'
end
end Mini

set_option Elab.async false
set_option linter.all false
set_option maxRecDepth 100000
set_option maxHeartbeats 2000000
namespace Mini
open PySem PySem.Spec PyProof.Rows L2
section
variable {w : World} {K : PySem.W.Frag} {fx : Fx} {p p1 p2 : Pt} {H H1 H2 : Hp} {σ : L2.St}
theorem SqL.ofRd {H : Hp} {a : Addr} {xs : List V} (h : Rd H a (.lst xs)) : SqL K H a xs := .inl h
/-- what stands at an owned value's address, and what it is once put away -/
theorem RV.frz {Hf H : Hp} {L : Loc3} {v : V} {val wal : Val} (h : RV w K Hf H L v val) (ho : val.owned = true) (hf : val.frz = some wal) :
    ∃ a o, v = .ref a ∧ H a = some o ∧ ¬ DrAll L a ∧ ∀ Hf', Same Hf Hf' → Hf' a = some o → ∃ x, wal = .d x ∧ Rp w K Hf' v x := by
  cases val with
  | ol xs =>
    obtain ⟨b, vs, e, h1, h2, h3⟩ := h
    cases hf
    refine ⟨b, _, e, h1, h3, fun Hf' sm hb => ⟨_, rfl, ?_⟩⟩
    rw [e]
    exact .lst hb (RpAll.mono sm _ _ h2)
  | od xs =>
    obtain ⟨b, e, ⟨o, es, ep, kw, vw, h1, h2, h3, h4, h5, h6, h7, h8, h9, h10⟩, n⟩ := h
    cases hf
    refine ⟨b, _, e, h1, n, fun Hf' sm hb => ⟨_, rfl, ?_⟩⟩
    rw [e]
    exact .dic hb h2 h3 h4 h5 h6 (RpAll.mono sm _ _ h7) (RpAll.mono sm _ _ h8) h9 h10
  | os xs => cases hf
  | d _ => cases ho
  | drw => cases ho
  | scr _ => cases ho
  | er _ _ => cases ho
theorem frz_plain {val : Val} (h : val.owned = false) : val.frz = some val := by
  cases val <;> first | rfl | cases h
theorem getSet {α : Type} {l : List (Option α)} {i j : Nat} {x y : α} (h : (l.set i (some x))[j]? = some (some y)) : (j = i ∧ y = x ∧ i < l.length) ∨ (j ≠ i ∧ l[j]? = some (some y)) := by
  by_cases e : j = i
  · subst e
    by_cases hl : j < l.length
    · rw [List.getElem?_set_self hl] at h; cases h; exact .inl ⟨rfl, rfl, hl⟩
    · rw [List.getElem?_eq_none (by simpa using hl)] at h; cases h
  · rw [List.getElem?_set_ne (Ne.symm e)] at h; exact .inr ⟨e, h⟩
/-- the value that a name alone holds is put away -/
theorem Sim.frzSlot (s : Sim w K fx p H σ) {i : Nat} {val wal : Val} (hi : p.S.ρ[i]? = some (some val)) (ho : val.owned = true) (hf : val.frz = some wal) :
    ∃ p', p'.S = { p.S with ρ := p.S.ρ.set i (some wal) } ∧ Sim w K fx p' H σ ∧ Step p H p' H σ ∧ ∃ u, σ[i]? = some (some u) ∧ RV w K p'.Hf H p'.L u wal := by
  obtain ⟨u, hu, rv⟩ := s.slot i val hi
  obtain ⟨a, o, rfl, ha, nd, hfz⟩ := rv.frz ho hf
  have so : SlotOwn p σ a := ⟨i, val, hi, ho, hu⟩
  have na : p.Hf a = none := (s.own a so).1
  have kf : Same p.Hf (upd p.Hf a o) := Same.lay na
  obtain ⟨x, rfl, rp⟩ := hfz _ kf upd_same
  have nq : ∀ {b : Addr}, b ≠ a → upd p.Hf a o b = p.Hf b := fun h => upd_ne h
  have soP : ∀ b, SlotOwn ⟨{ p.S with ρ := p.S.ρ.set i (some (.d x)) }, upd p.Hf a o, p.L⟩ σ b → SlotOwn p σ b ∧ b ≠ a := fun b ⟨j, v, h1, h2, h3⟩ => by
    rcases getSet h1 with ⟨_, e, _⟩ | ⟨e, h1'⟩
    · rw [e] at h2; cases h2
    · refine ⟨⟨j, v, h1', h2, h3⟩, fun z => ?_⟩
      rw [z] at h3
      exact s.apart j i v val a e h1' hi h2 ho h3 hu
  refine ⟨⟨{ p.S with ρ := p.S.ρ.set i (some (.d x)) }, upd p.Hf a o, p.L⟩, rfl, ⟨?_, ?_, ?_, ?_, ?_, ?_, s.dr0, s.drA, s.base, ?_, s.hf0.trans kf, s.ex0, s.l0⟩, ⟨kf, fun _ _ e _ => e, fun _ o e => ⟨o, e⟩, ?_, fun b h => (soP b h).1, fun _ e => .inl e, fun _ e => .inl e, LStep.refl _⟩, .ref a, hu, rp⟩
  · intro b y hb
    by_cases z : b = a
    · subst z; have hb : upd p.Hf b o b = some y := hb; rw [upd_same] at hb; cases hb; exact ha
    · have hb : upd p.Hf a o b = some y := hb; rw [nq z] at hb; exact s.sub b y hb
  · show (p.S.ρ.set i (some (.d x))).length = σ.length
    rw [List.length_set]; exact s.len
  · intro j v h
    rcases getSet h with ⟨e, e2, _⟩ | ⟨e, h⟩
    · subst e; subst e2; exact ⟨_, hu, rp⟩
    · obtain ⟨u', h1, h2⟩ := s.slot j v h
      exact ⟨u', h1, h2.step (σ := σ) (p1 := ⟨p.S, upd p.Hf a o, p.L⟩) ⟨kf, fun _ _ e _ => e, fun _ o e => ⟨o, e⟩, fun b y hb => by
        by_cases z : b = a
        · subst z; exact .inr (.inr so)
        · have hb : upd p.Hf a o b = some y := hb; rw [nq z] at hb; exact .inl hb, fun _ h => h, fun _ e => .inl e, fun _ e => .inl e, LStep.refl _⟩⟩
  · intro b h
    obtain ⟨h1, h2⟩ := soP b h
    refine ⟨?_, (s.own b h1).2⟩
    show upd p.Hf a o b = none
    rw [nq h2]; exact (s.own b h1).1
  · intro j k v v' b hjk h1 h2 o1 o2 h3 h4
    rcases getSet h1 with ⟨_, e, _⟩ | ⟨_, h1⟩
    · rw [e] at o1; cases o1
    · rcases getSet h2 with ⟨_, e, _⟩ | ⟨_, h2⟩
      · rw [e] at o2; cases o2
      · exact s.apart j k v v' b hjk h1 h2 o1 o2 h3 h4
  · refine s.dr.lay (fun _ _ e _ => e) fun b hb e => ?_
    show upd p.Hf a o b = none
    rw [nq (fun z => nd (z ▸ hb.all))]; exact e
  · intro b y hb
    by_cases z : b = a
    · subst z; exact .inr (s.own b so).2
    · have hb : upd p.Hf a o b = some y := hb; rw [nq z] at hb; exact s.newf b y hb
  · intro b y hb
    by_cases z : b = a
    · subst z; exact .inr (.inr so)
    · have hb : upd p.Hf a o b = some y := hb; rw [nq z] at hb; exact .inl hb
/-- a new value, held by nobody yet, is put away; Hs: the heap when its making began -/
theorem Sim.frzNew (s : Sim w K fx p H σ) {Hs : Hp} {ps : Pt} {v : V} {val wal : Val} (st : Step ps Hs p H σ) (ss : Sim w K fx ps Hs σ) (rv : RV w K p.Hf H p.L v val) (hf : val.frz = some wal) (fr : val.owned = true → ∃ a, v = .ref a ∧ Hs a = none ∧ p.Hf a = none) :
    ∃ p', p'.S = p.S ∧ Sim w K fx p' H σ ∧ Step ps Hs p' H σ ∧ RV w K p'.Hf H p'.L v wal ∧ wal.owned = false ∧ Same p.Hf p'.Hf := by
  by_cases ho : val.owned = true
  · obtain ⟨a, o, rfl, ha, nd, hfz⟩ := rv.frz ho hf
    obtain ⟨_, e, na0, na⟩ := fr ho
    cases e
    have nso : ¬ SlotOwn p σ a := fun h => by
      obtain ⟨⟨o, e⟩, _⟩ := ss.slotSome (st.so a h)
      rw [na0] at e; cases e
    have kf : Same p.Hf (upd p.Hf a o) := Same.lay na
    obtain ⟨x, rfl, rp⟩ := hfz _ kf upd_same
    have nq : ∀ {b : Addr}, b ≠ a → upd p.Hf a o b = p.Hf b := fun h => upd_ne h
    refine ⟨⟨p.S, upd p.Hf a o, p.L⟩, rfl, ⟨?_, s.len, ?_, ?_, s.apart, ?_, s.dr0, s.drA, s.base, ?_, s.hf0.trans kf, s.ex0, s.l0⟩, ⟨st.hf.trans kf, st.keep, st.ex, ?_, st.so, st.drA, st.drk, st.l⟩, rp, rfl, kf⟩
    · intro b y hb
      by_cases z : b = a
      · subst z; have hb : upd p.Hf b o b = some y := hb; rw [upd_same] at hb; cases hb; exact ha
      · have hb : upd p.Hf a o b = some y := hb; rw [nq z] at hb; exact s.sub b y hb
    · intro j u h
      obtain ⟨u', h1, h2⟩ := s.slot j u h
      refine ⟨u', h1, ?_⟩
      cases u with
      | d x => exact Rp.mono kf x u' h2
      | ol xs => obtain ⟨b, vs, e', h1, h2, h3⟩ := h2; exact ⟨b, vs, e', h1, RpAll.mono kf _ _ h2, h3⟩
      | od xs =>
        obtain ⟨b, e', ⟨o, es, ep, kw, vw, h1, h2, h3, h4, h5, h6, h7, h8, h9⟩, n⟩ := h2
        exact ⟨b, e', ⟨o, es, ep, kw, vw, h1, h2, h3, h4, h5, h6, RpAll.mono kf _ _ h7, RpAll.mono kf _ _ h8, h9⟩, n⟩
      | os xs =>
        obtain ⟨b, e', ⟨o, es, ep, t, ys, h1, h2, h3, h5, h6⟩, n⟩ := h2
        exact ⟨b, e', ⟨o, es, ep, t, ys, h1, h2, h3, E3.mono kf h5, h6⟩, n⟩
      | drw => exact h2
      | scr _ => obtain ⟨b, e', h1⟩ := h2; exact ⟨b, e', SqL.same kf h1⟩
      | er _ _ => exact h2
    · intro b h
      refine ⟨?_, (s.own b h).2⟩
      show upd p.Hf a o b = none
      rw [nq (fun z => nso (z ▸ h))]; exact (s.own b h).1
    · refine s.dr.lay (fun _ _ e _ => e) fun b hb e => ?_
      show upd p.Hf a o b = none
      rw [nq (fun z => nd (z ▸ hb.all))]; exact e
    · intro b y hb
      by_cases z : b = a
      · subst z; exact .inr (ss.h0 na0)
      · have hb : upd p.Hf a o b = some y := hb; rw [nq z] at hb; exact s.newf b y hb
    · intro b y hb
      by_cases z : b = a
      · subst z; exact .inr (.inl na0)
      · have hb : upd p.Hf a o b = some y := hb; rw [nq z] at hb; exact st.nf b y hb
  · have ho : val.owned = false := by simpa using ho
    rw [frz_plain ho] at hf
    cases hf
    exact ⟨p, rfl, s, st, rv, ho, Same.refl _⟩
/-- a name gets a value -/
theorem Sim.set (s : Sim w K fx p H σ) {i : Nat} {v : V} {val : Val} (rv : RV w K p.Hf H p.L v val) (hi : i < p.S.ρ.length)
    (fr : val.owned = true → ∃ a, v = .ref a ∧ p.Hf a = none ∧ fx.H0 a = none ∧ ∀ (j : Nat) u, p.S.ρ[j]? = some (some u) → u.owned = true → σ[j]? = some (some (.ref a)) → j = i) :
    Sim w K fx { p with S := { p.S with ρ := p.S.ρ.set i (some val) } } H (σ.set i (some v)) := by
  have hiσ : i < σ.length := by rw [← s.len]; exact hi
  have getσ : ∀ {j : Nat} {u : V}, j ≠ i → (σ.set i (some v))[j]? = some (some u) → σ[j]? = some (some u) := fun {j u} hj h => by
    rw [List.getElem?_set_ne (Ne.symm hj)] at h; exact h
  refine ⟨s.sub, ?_, ?_, ?_, ?_, s.dr, s.dr0, s.drA, s.base, s.newf, s.hf0, s.ex0, s.l0⟩
  · show (p.S.ρ.set i (some val)).length = (σ.set i (some v)).length
    rw [List.length_set, List.length_set]; exact s.len
  · intro j u h
    rcases getSet h with ⟨e, e2, _⟩ | ⟨e, h⟩
    · subst e; subst e2; exact ⟨v, List.getElem?_set_self hiσ, rv⟩
    · obtain ⟨u', h1, h2⟩ := s.slot j u h
      exact ⟨u', by rw [List.getElem?_set_ne (Ne.symm e)]; exact h1, h2⟩
  · intro b ⟨j, u, h1, h2, h3⟩
    rcases getSet h1 with ⟨e, e2, _⟩ | ⟨e, h1⟩
    · subst e; subst e2
      rw [List.getElem?_set_self hiσ] at h3
      cases h3
      obtain ⟨a, e, h4, h5, _⟩ := fr h2
      cases e
      exact ⟨h4, h5⟩
    · exact s.own b ⟨j, u, h1, h2, getσ e h3⟩
  · intro j k u u' b hjk h1 h2 o1 o2 h3 h4
    rcases getSet h1 with ⟨e, e2, _⟩ | ⟨e, h1'⟩
    · rw [e2] at o1
      rw [e, List.getElem?_set_self hiσ] at h3
      cases h3
      obtain ⟨a, e3, _, _, h5⟩ := fr o1
      cases e3
      rcases getSet h2 with ⟨e', _, _⟩ | ⟨e', h2'⟩
      · exact hjk (e.trans e'.symm)
      · exact e' (h5 k u' h2' o2 (getσ e' h4))
    · rcases getSet h2 with ⟨e', e2, _⟩ | ⟨e', h2'⟩
      · rw [e2] at o2
        rw [e', List.getElem?_set_self hiσ] at h4
        cases h4
        obtain ⟨a, e3, _, _, h5⟩ := fr o2
        cases e3
        exact e (h5 j u h1' o1 (getσ e h3))
      · exact s.apart j k u u' b hjk h1' h2' o1 o2 (getσ e h3) (getσ e' h4)
/-- the object that a name alone holds is changed in its place -/
theorem Sim.write (s : Sim w K fx p H σ) {i : Nat} {val wal : Val} {a : Addr} {o : HO} (hi : p.S.ρ[i]? = some (some val)) (ho : val.owned = true) (hu : σ[i]? = some (some (.ref a))) (hw : wal.owned = true)
    (rv : RV w K p.Hf (upd H a o) p.L (.ref a) wal) : Sim w K fx { p with S := { p.S with ρ := p.S.ρ.set i (some wal) } } (upd H a o) σ := by
  have so : SlotOwn p σ a := ⟨i, val, hi, ho, hu⟩
  obtain ⟨na, na0⟩ := s.own a so
  obtain ⟨⟨o₀, ha⟩, nd⟩ := s.slotSome so
  have k : ∀ {b : Addr} {x : HO}, H b = some x → b ≠ a → upd H a o b = some x := fun e h => by rw [upd_ne h]; exact e
  have kf : Same p.Hf (upd H a o) := fun b x e => k (s.sub b x e) fun z => by rw [z, na] at e; cases e
  have other : ∀ {j : Nat} {u : Val} {b : Addr}, j ≠ i → p.S.ρ[j]? = some (some u) → u.owned = true → σ[j]? = some (some (.ref b)) → b ≠ a := fun {j u b} hj h1 h2 h3 z => by
    subst z; exact s.apart j i u val b hj h1 hi h2 ho h3 hu
  refine ⟨kf, ?_, ?_, ?_, ?_, ?_, s.dr0, s.drA, ?_, s.newf, s.hf0, ?_, s.l0⟩
  · show (p.S.ρ.set i (some wal)).length = σ.length
    rw [List.length_set]; exact s.len
  · intro j u h
    rcases getSet h with ⟨e, e2, _⟩ | ⟨e, h⟩
    · subst e; subst e2; exact ⟨_, hu, rv⟩
    · obtain ⟨u', h1, h2⟩ := s.slot j u h
      refine ⟨u', h1, ?_⟩
      cases u with
      | d x => exact h2
      | ol xs => obtain ⟨b, vs, rfl, q1, q2, q3⟩ := h2; exact ⟨b, vs, rfl, k q1 (other e h rfl h1), q2, q3⟩
      | od xs =>
        obtain ⟨b, rfl, ⟨o, es, ep, kw, vw, q1, q2⟩, n⟩ := h2
        exact ⟨b, rfl, ⟨o, es, ep, kw, vw, k q1 (other e h rfl h1), q2⟩, n⟩
      | os xs =>
        obtain ⟨b, rfl, ⟨o, es, ep, t, ys, q1, q2⟩, n⟩ := h2
        exact ⟨b, rfl, ⟨o, es, ep, t, ys, k q1 (other e h rfl h1), q2⟩, n⟩
      | drw => exact h2
      | scr ns => exact h2
      | er _ _ => exact h2
  · intro b ⟨j, u, h1, h2, h3⟩
    rcases getSet h1 with ⟨e, e2, _⟩ | ⟨e, h1⟩
    · subst e; rw [hu] at h3; cases h3; exact ⟨na, na0⟩
    · exact s.own b ⟨j, u, h1, h2, h3⟩
  · intro j l u u' b hjk h1 h2 o1 o2 h3 h4
    have f : ∀ {j : Nat} {u : Val}, (p.S.ρ.set i (some wal))[j]? = some (some u) → ∃ u', p.S.ρ[j]? = some (some u') ∧ (u.owned = true → u'.owned = true) := fun {j u} h => by
      rcases getSet h with ⟨e, e2, _⟩ | ⟨e, h⟩
      · subst e; exact ⟨val, hi, fun _ => ho⟩
      · exact ⟨u, h, fun z => z⟩
    obtain ⟨v1, q1, r1⟩ := f h1
    obtain ⟨v2, q2, r2⟩ := f h2
    exact s.apart j l v1 v2 b hjk q1 q2 (r1 o1) (r2 o2) h3 h4
  · exact s.dr.lay (fun b x e hb => k e fun z => nd (z ▸ hb)) fun _ _ e => e
  · intro b x e n
    exact k (s.base b x e n) fun z => by rw [z, na0] at e; cases e
  · intro b x e
    by_cases z : b = a
    · subst z; exact ⟨o, upd_same⟩
    · obtain ⟨x', e'⟩ := s.ex0 b x e
      exact ⟨x', k e' z⟩
end

/-! ### ends of Mini's runs -/
def OutP {α : Type} (o : Out α) (k : α → Sta → Prop) (ke : Err → Sta → Prop) : Prop := match o with
  | .ok a s => k a s
  | .er e s => ke e s
  | .no => False
section
variable {α β : Type} {s : Sta} {k : β → Sta → Prop} {ke : Err → Sta → Prop}
theorem outP_bind {m : M α} {f : α → M β} (h : OutP ((m >>= f) s) k ke) : OutP (m s) (fun a s' => OutP (f a s') k ke) ke := by
  have h : OutP (M.bind m f s) k ke := h
  unfold M.bind at h
  cases e : m s with
  | ok a s' => rw [e] at h; exact h
  | er x s' => rw [e] at h; exact h
  | no => rw [e] at h; exact h
theorem outP_pure {a : β} (h : OutP ((pure a : M β) s) k ke) : k a s := h
theorem outP_of {o : Option β} (h : OutP (M.of o s) k ke) : ∃ a, o = some a ∧ k a s := by
  cases o with
  | none => exact h.elim
  | some a => exact ⟨a, rfl, h⟩
theorem outP_mono {o : Out α} {k k' : α → Sta → Prop} {ke ke' : Err → Sta → Prop} (h : OutP o k ke) (hk : ∀ a s, k a s → k' a s) (he : ∀ e s, ke e s → ke' e s) : OutP o k' ke' := by
  cases o with
  | ok a s' => exact hk _ _ h
  | er x s' => exact he _ _ h
  | no => exact h
end

/-! ### the readings -/
/-- what is fixed: the world, the written part, the other defs, where the error classes stand, the entry -/
structure Cfg where
  w : World
  K : PySem.W.Frag
  Γ : Env
  xcl : Str → Option Addr
  fx : Fx
abbrev Cfg.sim (c : Cfg) (p : Pt) (H : Hp) (σ : L2.St) : Prop := Sim c.w c.K c.fx p H σ
abbrev Cfg.rv (c : Cfg) (p : Pt) (H : Hp) (v : V) (x : Val) : Prop := RV c.w c.K p.Hf H p.L v x
def ExcRep (c : Cfg) (Hf H : Hp) (cls : Value) (d : Option Addr) (e : Err) : Prop :=
  ∃ C, c.xcl e.cls = some C ∧ cls = .ref C ∧ (e.fs ≠ [] → ∃ dd fs, d = some dd ∧ H dd = some (.xd fs) ∧ fs.map (·.1) = e.fs.map (·.1) ∧ RpAll c.w c.K Hf (fs.map (·.2)) (e.fs.map (·.2)))
def EW (c : Cfg) (W : WX) (σ : L2.St) (p : Pt) : Err → Sta → Prop := fun err S' => ∀ cls d H' p', p'.S = S' → c.sim p' H' σ → Same p.Hf p'.Hf → LStep p.L p'.L → ExcRep c p'.Hf H' cls d err → W cls d σ H'
/-- a value that nobody holds yet -/
def Fresh (H : Hp) (p' : Pt) (v : V) (val : Val) : Prop := val.owned = true → ∃ a, v = .ref a ∧ H a = none ∧ p'.Hf a = none
def tE (c : Cfg) (W : WX) (e : E) (m : Bool) : TE := fun σ H Q => ∃ p, c.sim p H σ ∧
  OutP (ev c.Γ e m p.S) (fun val S' => ∀ v H' p', p'.S = S' → c.sim p' H' σ → Step p H p' H' σ → c.rv p' H' v val → (m = true → Fresh H p' v val) → Q v H') (EW c W σ p)
def tT (c : Cfg) (W : WX) (t : Tst) : TT := fun σ H Q => ∃ p, c.sim p H σ ∧
  OutP (evt c.Γ t p.S) (fun b S' => ∀ H' p', p'.S = S' → c.sim p' H' σ → Step p H p' H' σ → Q b H') (EW c W σ p)
def tArgs (c : Cfg) (W : WX) (es : Es) : TA := fun σ H Q => ∃ p, c.sim p H σ ∧
  OutP (evs c.Γ es p.S) (fun vals S' => ∀ vs H' p', p'.S = S' → c.sim p' H' σ → Step p H p' H' σ → RVs c.w c.K p'.Hf H' p'.L vs vals → (∀ x ∈ vals, Val.owned x = false) → Q vs H') (EW c W σ p)
def tLook (c : Cfg) (W : WX) (es : Es) : TA := fun σ H Q => ∃ p, c.sim p H σ ∧
  OutP (evb c.Γ es p.S) (fun vals S' => ∀ vs H' p', p'.S = S' → c.sim p' H' σ → Step p H p' H' σ → RVs c.w c.K p'.Hf H' p'.L vs vals → Q vs H') (EW c W σ p)
section
variable {c : Cfg} {W : WX} {σ : L2.St} {p p1 : Pt} {H H1 : Hp}
theorem EW.step (st : Step p H p1 H1 σ) {e : Err} {S : Sta} (h : EW c W σ p e S) : EW c W σ p1 e S := fun cls d H' p' e1 e2 e3 e4 e5 => h cls d H' p' e1 e2 (st.hf.trans e3) (st.l.trans e4) e5
theorem tE.intro {e : E} {m : Bool} {Q : VK} {k : Val → Sta → Prop} {ke : Err → Sta → Prop} (s : c.sim p H σ) (h : OutP (ev c.Γ e m p.S) k ke)
    (hk : ∀ val v H' p', k val p'.S → c.sim p' H' σ → Step p H p' H' σ → c.rv p' H' v val → (m = true → Fresh H p' v val) → Q v H') (he : ∀ e S, ke e S → EW c W σ p e S) : tE c W e m σ H Q :=
  ⟨p, s, outP_mono h (fun val S' q v H' p' e => by subst e; exact hk val v H' p' q) he⟩
theorem tT.intro {t : Tst} {Q : Bool → Hp → Prop} {k : Bool → Sta → Prop} {ke : Err → Sta → Prop} (s : c.sim p H σ) (h : OutP (evt c.Γ t p.S) k ke)
    (hk : ∀ b H' p', k b p'.S → c.sim p' H' σ → Step p H p' H' σ → Q b H') (he : ∀ e S, ke e S → EW c W σ p e S) : tT c W t σ H Q :=
  ⟨p, s, outP_mono h (fun b S' q H' p' e => by subst e; exact hk b H' p' q) he⟩
theorem tArgs.intro {es : Es} {Q : List V → Hp → Prop} {k : List Val → Sta → Prop} {ke : Err → Sta → Prop} (s : c.sim p H σ) (h : OutP (evs c.Γ es p.S) k ke)
    (hk : ∀ vals vs H' p', k vals p'.S → c.sim p' H' σ → Step p H p' H' σ → RVs c.w c.K p'.Hf H' p'.L vs vals → (∀ x ∈ vals, Val.owned x = false) → Q vs H') (he : ∀ e S, ke e S → EW c W σ p e S) : tArgs c W es σ H Q :=
  ⟨p, s, outP_mono h (fun b S' q vs H' p' e => by subst e; exact hk b vs H' p' q) he⟩
theorem tLook.intro {es : Es} {Q : List V → Hp → Prop} {k : List Val → Sta → Prop} {ke : Err → Sta → Prop} (s : c.sim p H σ) (h : OutP (evb c.Γ es p.S) k ke)
    (hk : ∀ vals vs H' p', k vals p'.S → c.sim p' H' σ → Step p H p' H' σ → RVs c.w c.K p'.Hf H' p'.L vs vals → Q vs H') (he : ∀ e S, ke e S → EW c W σ p e S) : tLook c W es σ H Q :=
  ⟨p, s, outP_mono h (fun b S' q vs H' p' e => by subst e; exact hk b vs H' p' q) he⟩
end
theorem _root_.L2.PE.weak {X : Cx} {e : Expr} {t t' : TE} (h : PE X e t) (i : ∀ σ H Q, t' σ H Q → t σ H Q) : PE X e t' := ⟨fun pins s σ H Q I q => h.run pins s σ H Q I (i σ H Q q)⟩
theorem _root_.L2.PT.weak {X : Cx} {e : Expr} {t t' : TT} (h : PT X e t) (i : ∀ σ H Q, t' σ H Q → t σ H Q) : PT X e t' := ⟨fun pins s σ H Q I q => h.run pins s σ H Q I (i σ H Q q)⟩
theorem _root_.L2.PW.weak {X : Cx} {e : Expr} {t t' : TT} (h : PW X e t) (i : ∀ σ H Q, t' σ H Q → t σ H Q) : PW X e t' := ⟨fun wh pins s σ H Q I q => h.run wh pins s σ H Q I (i σ H Q q)⟩
theorem _root_.L2.PA.weak {X : Cx} {e : List Expr} {t t' : TA} (h : PA X e t) (i : ∀ σ H Q, t' σ H Q → t σ H Q) : PA X e t' := ⟨fun ps pins s σ H Q I q => h.run ps pins s σ H Q I (i σ H Q q)⟩
theorem _root_.L2.PS.weak {X : Cx} {e : Stmt} {t t' : TS} (h : PS X e t) (i : ∀ D σ H, t' D σ H → t D σ H) : PS X e t' := ⟨fun pins s σ H D I q => h.run pins s σ H D I (i D σ H q)⟩
theorem _root_.L2.PSs.weak {X : Cx} {e : List Stmt} {t t' : TS} (h : PSs X e t) (i : ∀ D σ H, t' D σ H → t D σ H) : PSs X e t' := ⟨fun pins s σ H D I q => h.run pins s σ H D I (i D σ H q)⟩
/-- as a value, and stored at once in a local name on its line -/
structure PEA (X : Cx) (e : Expr) (t : TE) : Prop where
  pe : PE X e t
  asg : ∀ (i : Nat) (y : Str) (py spos : Pos), X.N.Nodup → X.N[i]? = some y → X.env.scope.names.lookup y = some .local → swapsWith e (some (.Name y py)) spos.line X.env = pure true → PS X (.Assign [.Name y py] e spos) (tAsg t (gName i))
theorem PEA.weak {X : Cx} {e : Expr} {t t' : TE} (h : PEA X e t) (i : ∀ σ H Q, t' σ H Q → t σ H Q) : PEA X e t' :=
  ⟨h.pe.weak i, fun j y py spos hN h1 h2 h3 => (h.asg j y py spos hN h1 h2 h3).weak fun D σ H q => i σ H _ q⟩
end Mini

set_option Elab.async false
set_option linter.all false
set_option maxRecDepth 100000
set_option maxHeartbeats 2000000
namespace Mini
open PySem PySem.Spec PyProof.Rows L2
theorem OpR.or {X : Cx} {f : Value → Value → Sem Value} {r r' : R2} (h : OpR X f r) (h' : OpR X f r') : OpR X f (fun x y H Q => r x y H Q ∨ r' x y H Q) := by
  intro pins s σ H x y v u Q I rx ry q
  rcases q with q | q
  · exact h pins s σ H x y v u Q I rx ry q
  · exact h' pins s σ H x y v u Q I rx ry q
def rAddM (K : PySem.W.Frag) : R2 := fun x y H Q => (((∃ i j, x = .int i ∧ y = .int j ∧ Q (.int (i + j)) H) ∨ (∃ i j, x = .str i ∧ y = .str j ∧ i.length + j.length ≤ sizeLine ∧ Q (.str (i ++ j)) H)) ∨ rCat x y H Q) ∨ rCatA K x y H Q
theorem op_addM {X : Cx} : OpR X (binaryOp .Add) (rAddM X.K) := OpR.or (OpR.or (OpR.or op_add op_add_str) op_cat) op_catA
def rMulM (K : PySem.W.Frag) : R2 := fun x y H Q => (rI CMul (fun i j => .int (i * j)) x y H Q ∨ rRep x y H Q) ∨ rRepT K x y H Q
theorem op_mulM {X : Cx} : OpR X (binaryOp .Mult) (rMulM X.K) := OpR.or (OpR.or op_mul op_rep) op_repT
/-! ### views of values -/
section
variable {w : World} {K : PySem.W.Frag} {Hf H : Hp} {L : Loc3} {v : V} {val : Val}
theorem RV.rp (s : Same Hf H) (h : RV w K Hf H L v val) {x : PyData} (e : val.dat = some x) : Rp w K H v x := by
  cases val with
  | d y => cases e; exact Rp.mono s _ _ h
  | ol xs => obtain ⟨a, vs, rfl, h1, h2, _⟩ := h; cases e; exact .lst h1 (RpAll.mono s _ _ h2)
  | od xs =>
    obtain ⟨b, rfl, ⟨o, es, ep, kw, vw, h1, h2, h3, h4, h5, h6, h7, h8, h9, h10⟩, n⟩ := h
    cases e
    exact .dic h1 h2 h3 h4 h5 h6 (RpAll.mono s _ _ h7) (RpAll.mono s _ _ h8) h9 h10
  | os _ => cases e
  | drw => cases e
  | scr _ => cases e
  | er _ _ => cases e
theorem RV.int (h : RV w K Hf H L v val) {i : Int} (e : val.dat = some (.int i)) : v = .int i := by
  cases val with
  | d y => cases e; cases h; rfl
  | _ => cases e
theorem RV.str (h : RV w K Hf H L v val) {x : Str} (e : val.dat = some (.str x)) : v = .str x := by
  cases val with
  | d y => cases e; cases h; rfl
  | _ => cases e
theorem RV.bool (h : RV w K Hf H L v val) {x : Bool} (e : val.dat = some (.bool x)) : v = .bl x := by
  cases val with
  | d y => cases e; cases h; rfl
  | _ => cases e
theorem RV.none (h : RV w K Hf H L v val) (e : val.dat = some .none) : v = .non := by
  cases val with
  | d y => cases e; cases h; rfl
  | _ => cases e
theorem RV.list (s : Same Hf H) (h : RV w K Hf H L v val) {xs : List PyData} (e : val.dat = some (.list xs)) : ∃ a vs, v = .ref a ∧ H a = some (.lst vs) ∧ RpAll w K Hf vs xs := by
  cases val with
  | d y =>
    cases e
    cases h with
    | lst h1 h2 => exact ⟨_, _, rfl, s _ _ h1, h2⟩
  | ol ys => obtain ⟨a, vs, rfl, h1, h2, _⟩ := h; cases e; exact ⟨a, vs, rfl, h1, h2⟩
  | od _ => cases e
  | os _ => cases e
  | drw => cases e
  | scr _ => cases e
  | er _ _ => cases e
theorem RV.tuple (s : Same Hf H) (h : RV w K Hf H L v val) {xs : List PyData} (e : val.dat = some (.tuple xs)) : ∃ a vs, v = .ref a ∧ SqT K H a vs ∧ RpAll w K Hf vs xs := by
  cases val with
  | d y =>
    cases e
    cases h with
    | tup h1 h2 => exact ⟨_, _, rfl, SqT.same s h1, h2⟩
  | _ => cases e
theorem RV.dict (s : Same Hf H) (h : RV w K Hf H L v val) {xs : List (PyData × PyData)} (e : val.dat = some (.dict xs)) : ∃ a, v = .ref a ∧ DicAt w K Hf H a xs := by
  cases val with
  | d y =>
    cases e
    cases h with
    | dic h1 h2 h3 h4 h5 h6 h7 h8 h9 h10 => exact ⟨_, rfl, ⟨_, _, _, _, _, s _ _ h1, h2, h3, h4, h5, h6, h7, h8, h9, h10⟩⟩
  | od ys => obtain ⟨a, rfl, h1, _⟩ := h; cases e; exact ⟨a, rfl, h1⟩
  | ol _ => cases e
  | os _ => cases e
  | drw => cases e
  | scr _ => cases e
  | er _ _ => cases e
theorem dat_plain {x : PyData} (e : val.dat = some x) (h : flatD x = true) : val = .d x := by
  cases val with
  | d y => cases e; rfl
  | ol _ => cases e; cases h
  | od _ => cases e; cases h
  | os _ => cases e
  | drw => cases e
  | scr _ => cases e
  | er _ _ => cases e
end
/-! ### comparisons of data -/
def cop : COp → CmpOp
  | .eq => .Eq
  | .ne => .NotEq
  | .lt => .Lt
  | .le => .LtE
  | .gt => .Gt
  | .ge => .GtE
  | .isIn => .In
  | .notIn => .NotIn
  | .is => .Is
  | .isnot => .IsNot
def rCmpM (w : World) (K : PySem.W.Frag) (op : COp) : R2 := fun x y H Q => ∃ dx dy b, Rp w K H x dx ∧ Rp w K H y dy ∧ cmpD op dx dy = some b ∧ Q (.bl b) H
theorem ordOk_of {x y : PyData} (h : ordOk x y = true) : W.alike x y = true ∧ x ≠ .none ∧ min x.depth y.depth ≤ 60 := by
  unfold ordOk at h
  simp only [Bool.and_eq_true, decide_eq_true_eq, Bool.not_eq_true'] at h
  obtain ⟨⟨⟨h1, h2⟩, h3⟩, h4⟩ := h
  refine ⟨h1, fun e => ?_, by omega⟩
  rw [e] at h4; cases h4
theorem plainD_of {x : PyData} (h : plainD x = true) : x.plain = true ∧ x.depth ≤ 60 := by
  unfold plainD at h
  simpa using h
theorem eqD_of {x y : PyData} {b : Bool} (h : eqD x y = some b) : x.plain = true ∧ y.plain = true ∧ min x.depth y.depth ≤ 60 ∧ b = PyData.eqv x y := by
  unfold eqD at h
  split at h
  · rename_i hp
    rw [Bool.and_eq_true] at hp
    obtain ⟨h1, h2⟩ := plainD_of hp.1
    obtain ⟨h3, h4⟩ := plainD_of hp.2
    exact ⟨h1, h3, by omega, (Option.some.inj h).symm⟩
  · cases h
theorem op_cmpM {X : Cx} {op : COp} (hu : X.A.units + 64 < cLine) : OpR X (compareOp (cop op)) (rCmpM X.w X.K op) := by
  intro pins s σ H x y v u Q I rx ry h
  obtain ⟨dx, dy, b, h1, h2, hb, q⟩ := h
  obtain ⟨as, r1⟩ := Rp.reads I dx x v h1 rx
  obtain ⟨bs, r2⟩ := Rp.reads I dy y u h2 ry
  have fin : EP X pins σ Q (.bool b) s := ⟨.bl b, H, I, rfl, q⟩
  cases op with
  | eq =>
    obtain ⟨e1, e2, e3, rfl⟩ := eqD_of (show eqD dx dy = some b from hb)
    exact SeqAt.eq_plain r1 r2 e1 e2 (by omega) fin
  | ne =>
    obtain ⟨b', e, rfl⟩ := Option.map_eq_some_iff.mp (show (eqD dx dy).map (!·) = some b from hb)
    obtain ⟨e1, e2, e3, rfl⟩ := eqD_of e
    exact SeqAt.ne_plain r1 r2 e1 e2 (by omega) fin
  | lt =>
    have hb : ltD dx dy = some b := hb
    unfold ltD at hb
    split at hb
    · rename_i ho
      obtain ⟨a1, a2, a3⟩ := ordOk_of ho
      cases hb
      exact W.lt_data r1 r2 a1 a2 (by omega) fin
    · cases hb
  | gt =>
    have hb : (if ordOk dx dy then some (W.dataLt dy dx) else none) = some b := hb
    split at hb
    · rename_i ho
      obtain ⟨a1, a2, a3⟩ := ordOk_of ho
      cases hb
      exact W.gt_data r1 r2 a1 a2 (by omega) fin
    · cases hb
  | le =>
    have hb : (if ordOk dx dy then some (!W.dataLt dy dx) else none) = some b := hb
    split at hb
    · rename_i ho
      obtain ⟨a1, a2, a3⟩ := ordOk_of ho
      cases hb
      exact W.le_data r1 r2 a1 a2 (by omega) fin
    · cases hb
  | ge =>
    have hb : (if ordOk dx dy then some (!W.dataLt dx dy) else none) = some b := hb
    split at hb
    · rename_i ho
      obtain ⟨a1, a2, a3⟩ := ordOk_of ho
      cases hb
      exact W.ge_data r1 r2 a1 a2 (by omega) fin
    · cases hb
  | isIn => cases hb
  | notIn => cases hb
  | is =>
    have hb : isD dx dy = some b := hb
    cases dy with
    | none =>
      cases h2; cases ry
      have e : b = isNoneD dx := by cases dx <;> exact (Option.some.inj hb).symm
      have e2 : (v == Value.none) = b := by rw [rx.none_iff, e]; cases h1 <;> rfl
      exact is_none_gen (by rw [e2]; exact fin)
    | bool c =>
      cases h2; cases ry
      cases dx with
      | bool d =>
        cases h1; cases rx
        have e : b = (d == c) := by have := Option.some.inj hb; rw [← this]; cases d <;> cases c <;> rfl
        exact is_bool (by rw [← e]; exact fin)
      | _ => cases hb
    | _ => cases dx <;> cases hb
  | isnot =>
    obtain ⟨b', e, rfl⟩ := Option.map_eq_some_iff.mp (show (isD dx dy).map (!·) = some b from hb)
    cases dy with
    | none =>
      cases h2; cases ry
      have e : b' = isNoneD dx := by cases dx <;> exact (Option.some.inj e).symm
      have e2 : (v == Value.none) = b' := by rw [rx.none_iff, e]; cases h1 <;> rfl
      exact isnot_none_gen (by rw [e2]; exact fin)
    | bool c =>
      cases h2; cases ry
      cases dx with
      | bool d =>
        cases h1; cases rx
        have e : (!b') = (d != c) := by have := Option.some.inj e; rw [← this]; cases d <;> cases c <;> rfl
        exact isnot_bool (by rw [← e]; exact fin)
      | _ => cases e
    | _ => cases dx <;> cases e
end Mini

set_option Elab.async false
set_option linter.all false
set_option maxRecDepth 100000
set_option maxHeartbeats 2000000
namespace Mini
open PySem PySem.Spec PyProof.Rows L2

/-! ### the check: a piece of the text is the piece of Mini -/
def okN (x : Str) : Bool := !(x == ("__debug__" : Str)) && !(x == ("__classdict__" : Str)) && !(x == ("__name__" : Str))
def visB (sc : Scope) (x : Str) : Bool := match sc.names.lookup x with
  | some .local => true
  | some .cell => true
  | some .free => true
  | _ => false
def glB (sc : Scope) (x : Str) : Bool := match sc.names.lookup x with
  | some .globalImplicit => okN x
  | _ => false
def varB (N : List Str) (sc : Scope) (i : Nat) (x : Str) : Bool := decide (N[i]? = some x) && visB sc x && okN x
/-- a name that may be stored; st: the names whose cells are of this frame -/
def locB (N : List Str) (sc : Scope) (st : Str → Bool) (i : Nat) (x : Str) : Bool := decide (N[i]? = some x) && okN x && (match sc.names.lookup x with
  | some .local => true
  | some .cell => st x
  | _ => false)
def bop : BOp → Operator
  | .add => .Add
  | .sub => .Sub
  | .mul => .Mult
  | .mod => .Mod
  | .fdiv => .FloorDiv
  | .pow => .Pow
def biName : Bi → Str
  | .len => "len"
  | .sorted => "sorted"
  | .tuple => "tuple"
  | .list => "list"
  | .set => "set"
  | .dict => "dict"
  | .all => "all"
  | .any => "any"
  | .min => "min"
  | .max => "max"
  | .sum => "sum"
  | .repr => "repr"
  | .int => "int"
def meName : Me → Str
  | .join => "join"
  | .replace => "replace"
  | .get => "get"
  | .split => "split"
  | .startswith => "startswith"
def tyName : Ty → Str
  | .int => "int"
  | .bool => "bool"
  | .str => "str"
  | .tuple => "tuple"
  | .list => "list"
  | .dict => "dict"
/-- no star, no slice, no comprehension, no test's word -/
def plainX : Expr → Bool
  | .Name .. | .Constant .. | .Call .. | .Attribute .. | .Subscript .. | .BinOp .. | .Tuple .. | .List .. | .Dict .. => true
  | _ => false
def notStar : Expr → Bool
  | .Starred .. => false
  | _ => true
def notCall0 : Expr → Bool
  | .Call (.Name _ _) [] [] _ => false
  | _ => true
def notSet : Expr → Bool
  | .Set .. => false
  | _ => true
def notSlice : Expr → Bool
  | .Slice .. => false
  | _ => true
mutual
def isTg (N : List Str) (sc : Scope) (st : Str → Bool) : Tg → Expr → Bool
  | .nm i x, e => match e with
    | .Name y _ => decide (y = x) && locB N sc st i x
    | _ => false
  | .tp1 a, e => match e with
    | .Tuple [x] _ _ => isTg N sc st a x
    | _ => false
  | .tp2 a b, e => match e with
    | .Tuple [x, y] _ _ => isTg N sc st a x && isTg N sc st b y
    | _ => false
  | .tp3 a b c, e => match e with
    | .Tuple [x, y, z] _ _ => isTg N sc st a x && isTg N sc st b y && isTg N sc st c z
    | _ => false
  | .tp4 a b c d, e => match e with
    | .Tuple [x, y, z, u] _ _ => isTg N sc st a x && isTg N sc st b y && isTg N sc st c z && isTg N sc st d u
    | _ => false
end
def tgSlots : Tg → List Nat
  | .nm i _ => [i]
  | .tp1 a => tgSlots a
  | .tp2 a b => tgSlots a ++ tgSlots b
  | .tp3 a b c => tgSlots a ++ (tgSlots b ++ tgSlots c)
  | .tp4 a b c d => tgSlots a ++ (tgSlots b ++ (tgSlots c ++ tgSlots d))
/-- a comprehension's clause -/
def clauseB (N : List Str) (own : List (Str × Nat)) (tg : Tg) (i : Expr) (ifs : List Expr) : Bool := ((tgSlots tg).all fun j => (own.map (·.2)).contains j) && decide (ifs.length ≤ 1) && (match i with | .Set .. => false | _ => true) && ((own.map (·.2)).all fun j => decide (j < N.length))
/-- enumerate gives pairs that are taken apart -/
def enmOk : Itr → Tg → Bool
  | .enm _, .tp2 _ _ => true
  | .enm _, _ => false
  | _, _ => true
/-- the names that a comprehension's block may store -/
def blkSt (scope : Scope) : Str → Bool := fun x => match scope.names.lookup x with
  | some .local => true
  | some .cell => true
  | _ => false
mutual
def isE (N : List Str) (sc : Scope) : E → Expr → Bool
  | .var i x, e => match e with
    | .Name y _ => decide (y = x) && varB N sc i x
    | _ => false
  | .int n, e => match e with
    | .Constant (.int m) _ _ => decide (m = n)
    | _ => false
  | .str n, e => match e with
    | .Constant (.str m) _ _ => decide (m = n)
    | _ => false
  | .bl n, e => match e with
    | .Constant (.bool m) _ _ => decide (m = n)
    | _ => false
  | .non, e => match e with
    | .Constant .none _ _ => true
    | _ => false
  | .glob x, e => match e with
    | .Name y _ => decide (y = x) && glB sc x
    | _ => false
  | .tup es, e => match e with
    | .Tuple xs _ _ => isEs N sc es xs
    | _ => false
  | .lst es, e => match e with
    | .List xs _ => isEs N sc es xs
    | _ => false
  | .dic .nil .nil, e => match e with
    | .Dict [] [] _ => true
    | _ => false
  | .dic (.cons k .nil) (.cons v .nil), e => match e with
    | .Dict [some x] [y] _ => isE N sc k x && isE N sc v y
    | _ => false
  | .dic (.cons k1 (.cons k2 (.cons k3 .nil))) (.cons v1 (.cons v2 (.cons v3 .nil))), e => match e with
    | .Dict [some x1, some x2, some x3] [y1, y2, y3] _ => (isE N sc k1 x1 && (isE N sc k2 x2 && isE N sc k3 x3)) && (isE N sc v1 y1 && (isE N sc v2 y2 && isE N sc v3 y3))
    | _ => false
  | .dic _ _, e => true
  | .bin op a b, e => match e with
    | .BinOp x o y _ => decide (o = bop op) && isE N sc a x && isE N sc b y
    | _ => false
  | .neg a, e => match e with
    | .UnaryOp .USub x _ => isE N sc a x
    | _ => false
  | .not a, e => match e with
    | .UnaryOp .Not x _ => isE N sc a x
    | _ => false
  | .cmp op a b, e => match e with
    | .Compare x [o] [y] _ => decide (o = cop op) && notSet y && isE N sc a x && isE N sc b y
    | _ => false
  | .cmp2 op op' a b c, e => match e with
    | .Compare x [o, o'] [y, z] _ => decide (o = cop op) && decide (o' = cop op') && notSet y && notSet z && isE N sc a x && isE N sc b y && isE N sc c z
    | _ => false
  | .andV es, e => match e with
    | .BoolOp .And xs _ => isEs N sc es xs
    | _ => false
  | .orV es, e => match e with
    | .BoolOp .Or xs _ => isEs N sc es xs
    | _ => false
  | .ite t a b, e => match e with
    | .IfExp c x y _ => isT N sc t c && isE N sc a x && isE N sc b y
    | _ => false
  | .ix a i, e => match e with
    | .Subscript x y _ => notSlice y && (isE N sc a x && isE N sc i y)
    | _ => false
  | .sl a lo hi, e => match e with
    | .Subscript x (.Slice l h none _) _ => isE N sc a x && isO N sc lo l && isO N sc hi h
    | _ => false
  | .rev a, e => match e with
    | .Subscript x (.Slice none none (some (.UnaryOp .USub (.Constant (.int 1) _ _) _)) _) _ => isE N sc a x
    | _ => false
  | .bi b es, e => match e with
    | .Call (.Name f _) (x :: xs) [] _ => decide (f = biName b) && glB sc f && isEs N sc es (x :: xs)
    | _ => false
  | .me m o es, e => match e with
    | .Call (.Attribute x f apos) (y :: ys) [] cpos => decide (f = meName m) && ((apos.endLine == cpos.line) && (notCall0 x && (decide (ys.length < 20) && (isE N sc o x && isEs N sc es (y :: ys)))))
    | _ => false
  | .isi a t, e => match e with
    | .Call (.Name f _) [x, .Name g _] [] _ => decide (f = "isinstance") && decide (g = tyName t) && glB sc f && glB sc g && notStar x && isE N sc a x
    | _ => false
  | .call f es, e => match e with
    | .Call (.Name g _) (x :: xs) [] _ => decide (g = f) && glB sc f && isEs N sc es (x :: xs)
    | _ => false
  | .lc own tg it ts elt, e => match e with
    | .ListComp x [⟨t, i, ifs, 0⟩] scope _ => enmOk it tg && clauseB N own tg i ifs && blkC N sc scope own && isI N sc it i && isTg N (relS scope sc) (blkSt scope) tg t && isTs N (relS scope sc) ts ifs && isE N (relS scope sc) elt x
    | _ => false
  | .lc2 .., e => true
  | .sc own tg it ts elt, e => match e with
    | .SetComp x [⟨t, i, ifs, 0⟩] scope _ => enmOk it tg && clauseB N own tg i ifs && blkC N sc scope own && isI N sc it i && isTg N (relS scope sc) (blkSt scope) tg t && isTs N (relS scope sc) ts ifs && isE N (relS scope sc) elt x
    | _ => false
  | .sc2 .., e => true
  | .dc own tg it ts k v, e => match e with
    | .DictComp x y [⟨t, i, ifs, 0⟩] scope _ => enmOk it tg && clauseB N own tg i ifs && blkC N sc scope own && isI N sc it i && isTg N (relS scope sc) (blkSt scope) tg t && isTs N (relS scope sc) ts ifs && isE N (relS scope sc) k x && isE N (relS scope sc) v y
    | _ => false
  | .fld i x f, e => match e with
    | .Attribute (.Name y _) g _ => decide (y = x) && decide (g = f) && varB N sc i x
    | _ => false
  | .never, e => true
def isEs (N : List Str) (sc : Scope) : Es → List Expr → Bool
  | .nil, l => match l with
    | [] => true
    | _ => false
  | .cons e r, l => match l with
    | x :: xs => notStar x && (isE N sc e x && isEs N sc r xs)
    | _ => false
def isO (N : List Str) (sc : Scope) : Oe → Option Expr → Bool
  | .none, o => match o with
    | none => true
    | _ => false
  | .some e, o => match o with
    | some x => isE N sc e x
    | _ => false
def isT (N : List Str) (sc : Scope) : Tst → Expr → Bool
  | .e a, e => isE N sc a e && (match e with
    | .UnaryOp .Not _ _ | .BoolOp _ _ _ | .IfExp _ _ _ _ => false
    | _ => true)
  | .and ts, e => match e with
    | .BoolOp .And xs _ => isTs N sc ts xs && decide (0 < xs.length)
    | _ => false
  | .or ts, e => match e with
    | .BoolOp .Or xs _ => isTs N sc ts xs && decide (0 < xs.length)
    | _ => false
  | .not t, e => match e with
    | .UnaryOp .Not x _ => isT N sc t x
    | _ => false
def isTs (N : List Str) (sc : Scope) : Tsts → List Expr → Bool
  | .nil, l => match l with
    | [] => true
    | _ => false
  | .cons e r, l => match l with
    | x :: xs => isT N sc e x && isTs N sc r xs
    | _ => false
def isI (N : List Str) (sc : Scope) : Itr → Expr → Bool
  | .pl a, e => isE N sc a e && (match e with
    | .Set .. => false
    | _ => true)
  | .rng1 a, e => match e with
    | .Call (.Name f _) [x] [] _ => decide (f = "range") && glB sc f && notStar x && isE N sc a x
    | _ => false
  | .rng2 a b, e => match e with
    | .Call (.Name f _) [x, y] [] _ => decide (f = "range") && glB sc f && notStar x && notStar y && isE N sc a x && isE N sc b y
    | _ => false
  | .enm a, e => match e with
    | .Call (.Name f _) [x] [] _ => decide (f = "enumerate") && glB sc f && notStar x && isE N sc a x
    | _ => false
  | .zip .., e => true
  | .items .., e => true
  | .vals .., e => true
end

/-! ### what a def promises -/
structure CallPost (Hf H : Hp) (L : Loc3) (Hf' H' : Hp) (L' : Loc3) (dr' : Option Draw) : Prop where
  hf : Same Hf Hf'
  sub : Same Hf' H'
  keep : ∀ b o, H b = some o → ¬ Dr L b → H' b = some o
  ex : ∀ b o, H b = some o → ∃ o', H' b = some o'
  nf : ∀ b o, Hf' b = some o → Hf b = some o ∨ H b = none
  drA : ∀ b, DrAll L' b → DrAll L b ∨ H b = none
  drk : ∀ b, Dr L' b → Dr L b ∨ H b = none
  l : LStep L L'
  dr : DrOk Hf' H' L' dr'
def ExcRep' (w : World) (K : PySem.W.Frag) (xcl : Str → Option Addr) (Hf H : Hp) (cls : Value) (d : Option Addr) (e : Err) : Prop :=
  ∃ C, xcl e.cls = some C ∧ cls = .ref C ∧ (e.fs ≠ [] → ∃ dd fs, d = some dd ∧ H dd = some (.xd fs) ∧ fs.map (·.1) = e.fs.map (·.1) ∧ RpAll w K Hf (fs.map (·.2)) (e.fs.map (·.2)))
def spF (w : World) (K : PySem.W.Frag) (fns : Fns) (xcl : Str → Option Addr) (f : Str) (np : Nat) : Sp := fun vs H Q E => vs.length = np ∧ ∃ Hf L dr args, Same Hf H ∧ DrOk Hf H L dr ∧ RVs w K Hf H L vs args ∧ (∀ x ∈ args, Val.owned x = false) ∧
  (match fns f args dr with
  | .no => False
  | .ok v dr' => ∀ u H' Hf' L', CallPost Hf H L Hf' H' L' dr' → RV w K Hf' H' L' u v → (v.owned = true → ∃ a, u = .ref a ∧ H a = none ∧ Hf' a = none) → Q u H'
  | .er e dr' => ∀ cls d H' Hf' L', CallPost Hf H L Hf' H' L' dr' → ExcRep' w K xcl Hf' H' cls d e → E cls d H')
/-- a def's promise where no repr is under way -/
structure FnG (P : Program) (w : World) (K : PySem.W.Frag) (mg : Str → Option Value) (base : Heap) (k : Nat) (f : Addr) (fd : FuncData) (ps : List Str) (sp : Sp) : Prop where
  len : ∀ vs H Q E, sp vs H Q E → vs.length = ps.length
  run : ∀ (A : Around) (outer : List PySem.Env) (s : Shared) (H : Hp) (args : Args) (us : List Value) (vs : List V) (Q : VK) (E : XK), Room k A → A.guards = some [] → Env0 P w K mg base A outer s H → BindsTo s fd args (ps.zip us) → Vals vs us → sp vs H Q E →
    codeAny (model P w) A (.call (.ref f) args) (CR (L2.CX P w) outer P w H s Q E) s
/-- what is known of the module's names -/
abbrev cfg (X : Cx) (Γ : Env) (xcl : Str → Option Addr) (fx : Fx) : Cfg := ⟨X.w, X.K, Γ, xcl, fx⟩
structure Glb (X : Cx) (Γ : Env) (xcl : Str → Option Addr) (k : Nat) : Prop where
  bt : ∀ x : Str, x ∈ ([("len" : Str), "sorted", "tuple", "list", "set", "dict", "all", "any", "min", "max", "sum", "repr", "int", "isinstance", "bool", "str", "range", "enumerate", "super"] : List Str) → X.mg x = none
  gl : ∀ x d, Γ.glob x = some d → flatD d = true ∧ ∃ u, X.mg x = some u ∧ RelV (toV d) u
  fn : ∀ f, Γ.has f = true → ∃ fa fd ps, X.mg f = some (.ref fa) ∧ PySem.W.keepIn X.K (.ref fa) = true ∧ Binds X.K fd ps [] ∧ (∀ vs dr, Γ.fns f vs dr ≠ .no → vs.length = ps.length) ∧ FnG X.prog X.w X.K X.mg X.base k fa fd ps (spF X.w X.K Γ.fns xcl f ps.length)
structure XOk (Γ : Env) (xcl : Str → Option Addr) (W : WX) (N : List Str) (sc : Scope) (st : Str → Bool) (k : Nat) (X : Cx) : Prop where
  G : Glb X Γ xcl k
  hN : X.N = N
  nd : N.Nodup
  sc : X.env.scope = sc
  calm : X.calm = true
  room : Room k X.A
  gd : X.A.guards = some []
  tk : Takes X W
  po : PassesOwn (model X.prog X.w) X.A X.env X.xe
  hst : ∀ x, st x = true → X.fn x = true ∨ X.env.scope.names.lookup x = some .local
end Mini

set_option Elab.async false
set_option linter.all false
set_option maxRecDepth 100000
set_option maxHeartbeats 2000000
namespace Mini
open PySem PySem.Spec PyProof.Rows L2
section
variable {X : Cx} {Γ : Env} {xcl : Str → Option Addr} {fx : Fx} {W : WX} {N : List Str} {sc : Scope} {st : Str → Bool} {k : Nat} {pos : Pos} {m : Bool}
theorem pe_false {e : Expr} {t : TE} (h : ∀ σ H Q, ¬ t σ H Q) : PE X e t := ⟨fun _ _ σ H Q _ q => (h σ H Q q).elim⟩
theorem pt_false {e : Expr} {t : TT} (h : ∀ σ H Q, ¬ t σ H Q) : PT X e t := ⟨fun _ _ σ H Q _ q => (h σ H Q q).elim⟩
theorem vis_of (h : visB sc x = true) (e : X.env.scope = sc) : Vis X.env.scope x := by
  subst e
  unfold visB at h
  unfold Vis
  split at h <;> simp_all
theorem var_of {i : Nat} {x : Str} (ok : XOk Γ xcl W N sc st k X) (h : varB N sc i x = true) : X.N[i]? = some x ∧ Vis X.env.scope x ∧ (x == ("__debug__" : Str)) = false ∧ (x == ("__classdict__" : Str)) = false := by
  unfold varB okN at h
  simp only [Bool.and_eq_true, decide_eq_true_eq, Bool.not_eq_true'] at h
  obtain ⟨⟨h1, h2⟩, ⟨h3, h4⟩, h5⟩ := h
  exact ⟨by rw [ok.hN]; exact h1, vis_of h2 ok.sc, h3, h4⟩
theorem gl_of {x : Str} (ok : XOk Γ xcl W N sc st k X) (h : glB sc x = true) : Gl X x ∧ (x == ("__debug__" : Str)) = false ∧ x ≠ "__name__" := by
  have e := ok.sc
  unfold glB at h
  split at h
  · rename_i q
    unfold okN at h
    simp only [Bool.and_eq_true, Bool.not_eq_true'] at h
    refine ⟨?_, h.1.1, fun z => ?_⟩
    · show X.env.scope.names.lookup x = _
      rw [e]; exact q
    · have := h.2
      rw [z] at this
      simp at this
  · cases h
/-! ### names and constants -/
theorem s_var {i : Nat} {x : Str} (ok : XOk Γ xcl W N sc st k X) (h : varB N sc i x = true) : PE X (.Name x pos) (tE (cfg X Γ xcl fx) W (.var i x) m) := by
  obtain ⟨h1, h2, h3, h4⟩ := var_of ok h
  refine (pe_var h1 h2 h3 h4).weak fun σ H Q ⟨p, s, q⟩ => ?_
  cases m with
  | false =>
    have q : OutP (getSlot i p.S) _ _ := q
    unfold getSlot at q
    cases e : p.S.ρ[i]? with
    | none => rw [e] at q; exact q.elim
    | some o =>
      cases o with
      | none => rw [e] at q; exact q.elim
      | some v =>
        rw [e] at q
        obtain ⟨u, e1, e2⟩ := s.slot i v e
        exact ⟨u, e1, q u H p rfl s (Step.refl p H σ) e2 (fun z => nomatch z)⟩
  | true =>
    have q : OutP (useSlot i p.S) _ _ := q
    unfold useSlot at q
    cases e : p.S.ρ[i]? with
    | none => rw [e] at q; exact q.elim
    | some o =>
      cases o with
      | none => rw [e] at q; exact q.elim
      | some v =>
        rw [e] at q
        dsimp only at q
        by_cases ho : v.owned = true
        · rw [if_pos ho] at q
          cases ef : v.frz with
          | none => rw [ef] at q; exact q.elim
          | some w =>
            rw [ef] at q
            obtain ⟨p', e1, s', st', u, e2, rv⟩ := s.frzSlot e ho ef
            have hn : w.owned = false := by
              cases v <;> first | (cases ef; rfl) | (cases ho; done) | (cases ef; done)
            exact ⟨u, e2, q u H p' e1 s' st' rv fun _ z => absurd z (by rw [hn]; decide)⟩
        · rw [if_neg ho] at q
          obtain ⟨u, e1, e2⟩ := s.slot i v e
          exact ⟨u, e1, q u H p rfl s (Step.refl p H σ) e2 (fun _ z => absurd z ho)⟩
/-- a flat value that is just there -/
theorem tC_flat {e : E} {x : PyData} (hx : flatD x = true) (he : ∀ m s, ev Γ e m s = .ok (.d x) s) (σ : L2.St) (H : Hp) (Q : VK) (h : tE (cfg X Γ xcl fx) W e m σ H Q) : tC (toV x) σ H Q := by
  obtain ⟨p, s, q⟩ := h
  rw [he] at q
  exact q (toV x) H p rfl s (Step.refl p H σ) (Rp.flat hx) (fun _ z => nomatch z)
theorem s_int {i : Int} {j : Nat} : PE X (.Constant (.int i) j pos) (tE (cfg X Γ xcl fx) W (.int i) m) := pe_int.weak (tC_flat (x := .int i) rfl fun _ _ => rfl)
theorem s_str {i : Str} {j : Nat} : PE X (.Constant (.str i) j pos) (tE (cfg X Γ xcl fx) W (.str i) m) := pe_str.weak (tC_flat (x := .str i) rfl fun _ _ => rfl)
theorem s_bl {i : Bool} {j : Nat} : PE X (.Constant (.bool i) j pos) (tE (cfg X Γ xcl fx) W (.bl i) m) := pe_bl.weak (tC_flat (x := .bool i) rfl fun _ _ => rfl)
theorem s_non {j : Nat} : PE X (.Constant .none j pos) (tE (cfg X Γ xcl fx) W .non m) := pe_non.weak (tC_flat (x := .none) rfl fun _ _ => rfl)
theorem s_glob {x : Str} (ok : XOk Γ xcl W N sc st k X) (h : glB sc x = true) : PE X (.Name x pos) (tE (cfg X Γ xcl fx) W (.glob x) m) := by
  obtain ⟨h1, h2, h3⟩ := gl_of ok h
  cases e : Γ.glob x with
  | none =>
    refine pe_false fun σ H Q ⟨p, s, q⟩ => ?_
    have q : OutP ((M.of (Γ.glob x) >>= fun y => pure (Val.d y)) p.S) _ _ := q
    obtain ⟨a, e1, _⟩ := outP_of (outP_bind q)
    rw [e] at e1; cases e1
  | some d =>
    obtain ⟨hf, u, hm, r⟩ := ok.G.gl x d e
    refine (pe_glob h1 hm r h2).weak (tC_flat hf fun _ s => ?_)
    show (M.of (Γ.glob x) >>= fun y => pure (Val.d y)) s = _
    rw [e]; rfl
/-! ### arguments -/
theorem star_cons {e : Expr} (es : List Expr) (env : PySem.Env) (h : notStar e = true) : starEach (e :: es) env = (false, eval e env) :: starEach es env := by
  cases e <;> first | rfl | cases h
theorem isEs_star : ∀ {es : Es} {xs : List Expr} (h : isEs N sc es xs = true) (env : PySem.Env) (pos : Pos), (backTo pos (starEach xs env)).any (·.1) = false
  | .nil, [], _, _, _ => rfl
  | .nil, _ :: _, h, _, _ => Bool.noConfusion (show false = true from h)
  | .cons _ _, [], h, _, _ => Bool.noConfusion (show false = true from h)
  | .cons e r, x :: xs, h, env, pos => by
    have h : (notStar x && (isE N sc e x && isEs N sc r xs)) = true := h
    simp only [Bool.and_eq_true] at h
    rw [star_cons xs env h.1]
    show (false || (backTo pos (starEach xs env)).any (·.1)) = false
    rw [isEs_star h.2.2 env pos]; rfl
/-- a value that is put away behind its making -/
theorem put_away {c : Cfg} {e : Mini.E} {Q : VK} {σ : L2.St} {H : Hp} {p : Pt} {kk : Val → Sta → Prop} {ke : Err → Sta → Prop} (s : c.sim p H σ) (h : OutP (ev c.Γ e true p.S) (fun v S1 => OutP (frzM v S1) kk ke) ke)
    (hk : ∀ val v H' p', kk val p'.S → c.sim p' H' σ → Step p H p' H' σ → c.rv p' H' v val → val.owned = false → Q v H') (he : ∀ e S, ke e S → EW c W σ p e S) : tE c W e true σ H Q := by
  refine tE.intro s h (fun val v H1 p1 q s1 st1 rv fr => ?_) he
  obtain ⟨wal, ew, q⟩ := outP_of (show OutP (M.of val.frz p1.S) kk ke from q)
  obtain ⟨p2, e2, s2, st2, rv2, ho, _⟩ := Sim.frzNew s1 st1 s rv ew (fr rfl)
  exact hk wal v H1 p2 (by rw [e2]; exact q) s2 st2 rv2 ho
theorem s_nil : PA X [] (tArgs (cfg X Γ xcl fx) W .nil) := pa_nil.weak fun σ H Q ⟨p, s, q⟩ => q [] H p rfl s (Step.refl p H σ) .nil (fun _ z => nomatch z)
theorem s_cons {e : E} {r : Es} {x : Expr} {xs : List Expr} (hs : notStar x = true) (h1 : PE X x (tE (cfg X Γ xcl fx) W e true)) (h2 : PA X xs (tArgs (cfg X Γ xcl fx) W r)) : PA X (x :: xs) (tArgs (cfg X Γ xcl fx) W (.cons e r)) := by
  refine (pa_cons h1 h2 (star_cons xs X.env hs)).weak fun σ H Q ⟨p, s, q⟩ => ?_
  have q : OutP ((ev Γ e true >>= fun v => frzM v >>= fun v' => evs Γ r >>= fun vs => pure (v' :: vs)) p.S) _ _ := q
  refine put_away (c := cfg X Γ xcl fx) (kk := fun v' S1 => OutP ((evs Γ r >>= fun vs => pure (v' :: vs)) S1) _ _) s (outP_mono (outP_bind q) (fun v S1 q => outP_bind q) fun _ _ z => z) (fun val v H1 p1 q1 s1 st1 rv ho => ?_) fun _ _ z => z
  refine tArgs.intro s1 (outP_bind q1) (fun vals vs H2 p2 q2 s2 st2 rvs hos => ?_) fun _ _ z => z.step st1
  have q2 := outP_pure q2
  exact q2 (v :: vs) H2 p2 rfl s2 (st1.trans st2) (.cons (rv.step st2) rvs) (fun y hy => (List.mem_cons.mp hy).elim (fun z => z ▸ ho) (hos y))
theorem l_nil : PA X [] (tLook (cfg X Γ xcl fx) W .nil) := pa_nil.weak fun σ H Q ⟨p, s, q⟩ => q [] H p rfl s (Step.refl p H σ) .nil
theorem l_cons {e : E} {r : Es} {x : Expr} {xs : List Expr} (hs : notStar x = true) (h1 : PE X x (tE (cfg X Γ xcl fx) W e false)) (h2 : PA X xs (tLook (cfg X Γ xcl fx) W r)) : PA X (x :: xs) (tLook (cfg X Γ xcl fx) W (.cons e r)) := by
  refine (pa_cons h1 h2 (star_cons xs X.env hs)).weak fun σ H Q ⟨p, s, q⟩ => ?_
  have q : OutP ((ev Γ e false >>= fun v => evb Γ r >>= fun vs => pure (v :: vs)) p.S) _ _ := q
  refine tE.intro s (outP_bind q) (fun val v H1 p1 q1 s1 st1 rv _ => ?_) fun _ _ z => z
  refine tLook.intro s1 (outP_bind q1) (fun vals vs H2 p2 q2 s2 st2 rvs => ?_) fun _ _ z => z.step st1
  have q2 := outP_pure q2
  exact q2 (v :: vs) H2 p2 rfl s2 (st1.trans st2) (.cons (rv.step st2) rvs)
theorem datas_all : ∀ {vals : List Val} {xs : List PyData} {w : World} {K : PySem.W.Frag} {Hf H : Hp} {L : Loc3} {vs : List V}, datas vals = some xs → RVs w K Hf H L vs vals → RpAll w K Hf vs xs
  | [], xs, _, _, _, _, _, _, e, .nil => by cases e; exact .nil
  | .d x :: r, xs, _, _, _, _, _, _, e, .cons h q => by
    obtain ⟨ys, e1, rfl⟩ := Option.map_eq_some_iff.mp (show (datas r).map (x :: ·) = some xs from e)
    exact .cons h (datas_all e1 q)
  | .ol _ :: _, _, _, _, _, _, _, _, e, _ => by cases e
  | .od _ :: _, _, _, _, _, _, _, _, e, _ => by cases e
  | .os _ :: _, _, _, _, _, _, _, _, e, _ => by cases e
  | .drw :: _, _, _, _, _, _, _, _, e, _ => by cases e
  | .er _ _ :: _, _, _, _, _, _, _, _, e, _ => by cases e
  | .scr _ :: _, _, _, _, _, _, _, _, e, _ => by cases e
/-! ### displays -/
theorem newTup {c : Cfg} {σ : L2.St} {H : Hp} {p : Pt} (s : c.sim p H σ) {vs : List V} {xs : List PyData} (r : RpAll c.w c.K p.Hf vs xs) {q : Addr} (hq : H q = none) :
    ∃ p', p'.S = p.S ∧ c.sim p' (upd H q (.tup vs)) σ ∧ Step p H p' (upd H q (.tup vs)) σ ∧ c.rv p' (upd H q (.tup vs)) (.ref q) (.d (.tuple xs)) := by
  obtain ⟨s', st'⟩ := s.layF (o := .tup vs) hq
  exact ⟨{ p with Hf := upd p.Hf q (.tup vs) }, rfl, s', st', .tup (SqT.of upd_same) (RpAll.mono st'.hf _ _ r)⟩
theorem newLst {c : Cfg} {σ : L2.St} {H : Hp} {p : Pt} (s : c.sim p H σ) {vs : List V} {xs : List PyData} (r : RpAll c.w c.K p.Hf vs xs) {q : Addr} (hq : H q = none) :
    c.sim p (upd H q (.lst vs)) σ ∧ Step p H p (upd H q (.lst vs)) σ ∧ c.rv p (upd H q (.lst vs)) (.ref q) (.ol xs) ∧ p.Hf q = none := by
  obtain ⟨s', st'⟩ := s.layO (o := .lst vs) hq
  refine ⟨s', st', ⟨q, vs, rfl, upd_same, r, fun z => ?_⟩, ?_⟩
  · obtain ⟨o, e⟩ := s.drSome z
    rw [hq] at e; cases e
  · cases e : p.Hf q with
    | none => rfl
    | some o => rw [s.sub q o e] at hq; cases hq
theorem fits_of {n : Nat} (h : fits n = true) : n ≤ sizeLine := of_decide_eq_true h
theorem s_tup {es : Es} {xs : List Expr} {j : Nat} (h : PA X xs (tArgs (cfg X Γ xcl fx) W es)) : PE X (.Tuple xs j pos) (tE (cfg X Γ xcl fx) W (.tup es) m) := by
  refine (pe_tup h).weak fun σ H Q ⟨p, s, q⟩ => ?_
  have q : OutP ((evs Γ es >>= fun vs => M.of (datas vs) >>= fun ys => if fits ys.length then pure (Val.d (.tuple ys)) else M.no) p.S) _ _ := q
  refine tArgs.intro s (outP_bind q) (fun vals vs H1 p1 q1 s1 st1 rvs _ => ?_) fun _ _ z => z
  obtain ⟨ys, e1, q1⟩ := outP_of (outP_bind q1)
  have rp := datas_all e1 rvs
  split at q1
  · rename_i hf
    refine ⟨by rw [rp.length]; exact fits_of hf, fun a ha => ?_⟩
    obtain ⟨p2, e2, s2, st2, rv2⟩ := newTup (c := cfg X Γ xcl fx) s1 rp ha
    exact outP_pure q1 _ _ p2 e2 s2 (st1.trans st2) rv2 (fun _ z => nomatch z)
  · exact q1.elim
theorem s_lst {es : Es} {xs : List Expr} (h : PA X xs (tArgs (cfg X Γ xcl fx) W es)) : PE X (.List xs pos) (tE (cfg X Γ xcl fx) W (.lst es) m) := by
  refine (pe_lst h).weak fun σ H Q ⟨p, s, q⟩ => ?_
  have q : OutP ((evs Γ es >>= fun vs => M.of (datas vs) >>= fun ys => if fits ys.length then pure (Val.ol ys) else M.no) p.S) _ _ := q
  refine tArgs.intro s (outP_bind q) (fun vals vs H1 p1 q1 s1 st1 rvs _ => ?_) fun _ _ z => z
  obtain ⟨ys, e1, q1⟩ := outP_of (outP_bind q1)
  have rp := datas_all e1 rvs
  split at q1
  · rename_i hf
    refine ⟨by rw [rp.length]; exact fits_of hf, fun a ha => ?_⟩
    obtain ⟨s2, st2, rv2, hn⟩ := newLst (c := cfg X Γ xcl fx) s1 rp ha
    exact outP_pure q1 _ _ p1 rfl s2 (st1.trans st2) rv2 (fun _ _ => ⟨a, rfl, st1.none_of ha, hn⟩)
  · exact q1.elim
end
end Mini

set_option Elab.async false
set_option linter.all false
set_option maxRecDepth 100000
set_option maxHeartbeats 2000000
namespace Mini
open PySem PySem.Spec PyProof.Rows L2
section
variable {X : Cx} {Γ : Env} {xcl : Str → Option Addr} {fx : Fx} {W : WX} {N : List Str} {sc : Scope} {st : Str → Bool} {k : Nat} {pos : Pos} {m : Bool}
/-- two values looked at, one behind the other -/
theorem two {c : Cfg} {W : WX} {a b : E} {σ : L2.St} {H : Hp} {p : Pt} {R : V → V → Hp → Prop} {kk : Val → Val → Sta → Prop} {ke : Err → Sta → Prop} (s : c.sim p H σ)
    (h : OutP (ev c.Γ a false p.S) (fun x S1 => OutP (ev c.Γ b false S1) (fun y S2 => kk x y S2) ke) ke) (he : ∀ e S, ke e S → EW c W σ p e S)
    (hk : ∀ x y v u H' p', kk x y p'.S → c.sim p' H' σ → Step p H p' H' σ → c.rv p' H' v x → c.rv p' H' u y → R v u H') : tE c W a false σ H fun v H1 => tE c W b false σ H1 fun u H2 => R v u H2 :=
  tE.intro s h (fun x v H1 p1 q1 s1 st1 rv _ => tE.intro s1 q1 (fun y u H2 p2 q2 s2 st2 rv2 _ => hk x y v u H2 p2 q2 s2 (st1.trans st2) (rv.step st2) rv2) fun e S z => (he e S z).step st1) he
/-- what is wanted of a value that is made at a point -/
def Got (c : Cfg) (σ : L2.St) (p : Pt) (H : Hp) (Q : VK) (val : Val) : Prop := ∀ v H' p', p'.S = p.S → c.sim p' H' σ → Step p H p' H' σ → c.rv p' H' v val → Fresh H p' v val → Q v H'
theorem Got.flat {c : Cfg} {σ : L2.St} {p : Pt} {H : Hp} {Q : VK} {x : PyData} (g : Got c σ p H Q (.d x)) (s : c.sim p H σ) (hx : flatD x = true) : Q (toV x) H :=
  g (toV x) H p rfl s (Step.refl p H σ) (Rp.flat hx) (fun z => nomatch z)
theorem Got.same {c : Cfg} {σ : L2.St} {p : Pt} {H : Hp} {Q : VK} {x : PyData} (g : Got c σ p H Q (.d x)) (s : c.sim p H σ) {v : V} (r : c.rv p H v (.d x)) : Q v H :=
  g v H p rfl s (Step.refl p H σ) r (fun z => nomatch z)
theorem Got.tup {c : Cfg} {σ : L2.St} {p : Pt} {H : Hp} {Q : VK} {vs : List V} {xs : List PyData} (g : Got c σ p H Q (.d (.tuple xs))) (s : c.sim p H σ) (r : RpAll c.w c.K p.Hf vs xs) (q : Addr) (hq : H q = none) : Q (.ref q) (upd H q (.tup vs)) := by
  obtain ⟨p2, e2, s2, st2, rv2⟩ := newTup (c := c) s r hq
  exact g _ _ p2 e2 s2 st2 rv2 (fun z => nomatch z)
theorem Got.lst {c : Cfg} {σ : L2.St} {p : Pt} {H : Hp} {Q : VK} {vs : List V} {xs : List PyData} (g : Got c σ p H Q (.ol xs)) (s : c.sim p H σ) (r : RpAll c.w c.K p.Hf vs xs) (q : Addr) (hq : H q = none) : Q (.ref q) (upd H q (.lst vs)) := by
  obtain ⟨s2, st2, rv2, hn⟩ := newLst (c := c) s r hq
  exact g _ _ p rfl s2 st2 rv2 (fun _ => ⟨q, rfl, hq, hn⟩)
theorem Got.of {c : Cfg} {σ : L2.St} {p p1 : Pt} {H H1 : Hp} {Q : VK} {val : Val} (st1 : Step p H p1 H1 σ) (h : ∀ v H' p', p'.S = p1.S → c.sim p' H' σ → Step p H p' H' σ → c.rv p' H' v val → (m = true → Fresh H p' v val) → Q v H') : Got c σ p1 H1 Q val :=
  fun v H' p' e s st2 rv fr => h v H' p' e s (st1.trans st2) rv (fun _ z => let ⟨a, e1, e2, e3⟩ := fr z; ⟨a, e1, st1.none_of e2, e3⟩)
/-! ### operators -/
theorem RpAll.flat {w : World} {K : PySem.W.Frag} {H : Hp} : ∀ {vs : List V} {n : Nat} {xs : List PyData}, RpAll w K H vs xs → RpAll w K H (List.replicate n vs).flatten (List.replicate n xs).flatten
  | vs, 0, xs, _ => .nil
  | vs, n + 1, xs, h => by
    rw [List.replicate_succ, List.replicate_succ, List.flatten_cons, List.flatten_cons]
    exact h.append (RpAll.flat h)
theorem add_read {c : Cfg} {σ : L2.St} {p : Pt} {H : Hp} {Q : VK} {x y val : Val} {v u : V} (s : c.sim p H σ) (rx : c.rv p H v x) (ry : c.rv p H u y) (h : binV .add x y = some val) (g : Got c σ p H Q val) : rAddM c.K v u H Q := by
  unfold binV at h
  cases ex : x.dat with
  | none => rw [ex] at h; cases h
  | some dx =>
    cases ey : y.dat with
    | none => rw [ex, ey] at h; cases h
    | some dy =>
      rw [ex, ey] at h
      have h : addD dx dy = some val := h
      unfold addD at h
      split at h
      · cases h
        cases rx.int ex; cases ry.int ey
        exact .inl (.inl (.inl ⟨_, _, rfl, rfl, g.flat s rfl⟩))
      · split at h
        · rename_i hf
          cases h
          cases rx.str ex; cases ry.str ey
          exact .inl (.inl (.inr ⟨_, _, rfl, rfl, fits_of hf, g.flat s rfl⟩))
        · cases h
      · split at h
        · rename_i hf
          cases h
          obtain ⟨a, vs, rfl, h1, h2⟩ := rx.list s.sub ex
          obtain ⟨b, us, rfl, h3, h4⟩ := ry.list s.sub ey
          exact .inl (.inr ⟨a, b, vs, us, rfl, rfl, h1, h3, by rw [h2.length, h4.length]; exact fits_of hf, g.lst s (h2.append h4)⟩)
        · cases h
      · split at h
        · rename_i hf
          cases h
          obtain ⟨a, vs, rfl, h1, h2⟩ := rx.tuple s.sub ex
          obtain ⟨b, us, rfl, h3, h4⟩ := ry.tuple s.sub ey
          refine .inr ⟨a, b, vs, us, rfl, rfl, h1, h3, by rw [h2.length, h4.length]; exact fits_of hf, fun e => ?_, fun _ e => ?_, fun _ _ => g.tup s (h2.append h4)⟩
          · subst e
            cases h2
            cases dat_tup ey
            exact g.same s ry
          · subst e
            cases h4
            cases dat_tup ex
            rw [List.append_nil] at g
            exact g.same s rx
        · cases h
      · cases h
where
  dat_tup {x : Val} {ys : List PyData} (e : x.dat = some (.tuple ys)) : x = .d (.tuple ys) := by
    cases x <;> first | (cases e; rfl) | (cases e; done)
theorem mul_read {c : Cfg} {σ : L2.St} {p : Pt} {H : Hp} {Q : VK} {x y val : Val} {v u : V} (s : c.sim p H σ) (rx : c.rv p H v x) (ry : c.rv p H u y) (h : binV .mul x y = some val) (g : Got c σ p H Q val) : rMulM c.K v u H Q := by
  unfold binV at h
  cases ex : x.dat with
  | none => rw [ex] at h; cases h
  | some dx =>
    cases ey : y.dat with
    | none => rw [ex, ey] at h; cases h
    | some dy =>
      rw [ex, ey] at h
      have h : mulD dx dy = some val := h
      unfold mulD at h
      split at h
      · split at h
        · rename_i hs
          cases h
          cases rx.int ex; cases ry.int ey
          refine .inl (.inl ⟨_, _, rfl, rfl, ?_, g.flat s rfl⟩)
          unfold small at hs
          simp only [Bool.or_eq_true, Bool.and_eq_true, decide_eq_true_eq] at hs
          exact hs
        · cases h
      · split at h
        · rename_i hf
          cases h
          simp only [Bool.and_eq_true, decide_eq_true_eq] at hf
          obtain ⟨⟨h5, h6⟩, h7⟩ := hf
          obtain ⟨a, vs, rfl, h1, h2⟩ := rx.list s.sub ex
          cases ry.int ey
          exact .inl (.inr ⟨a, _, vs, rfl, rfl, h1, by omega, by omega, by rw [h2.length]; exact fits_of h7, g.lst s h2.flat⟩)
        · cases h
      · split at h
        · rename_i hf
          cases h
          simp only [Bool.and_eq_true, decide_eq_true_eq] at hf
          obtain ⟨⟨⟨h5, h6⟩, h7⟩, h8⟩ := hf
          obtain ⟨a, vs, rfl, h1, h2⟩ := rx.tuple s.sub ex
          cases ry.int ey
          refine .inr ⟨a, _, vs, rfl, rfl, h1, fun z => ?_, h5, h6, by rw [h2.length]; exact h8, g.tup s h2.flat⟩
          subst z
          have := h2.length
          simp at this
          omega
        · cases h
      · cases h
theorem int2_read {c : Cfg} {σ : L2.St} {p : Pt} {H : Hp} {Q : VK} {x y val : Val} {v u : V} {op : BOp} {C : Int → Int → Prop} {f : Int → Int → Int} (s : c.sim p H σ) (rx : c.rv p H v x) (ry : c.rv p H u y) (h : binV op x y = some val)
    (hd : ∀ dx dy, binD op dx dy = some val → ∃ i j, dx = .int i ∧ dy = .int j ∧ C i j ∧ val = .d (.int (f i j))) (g : Got c σ p H Q val) : rI C (fun i j => .int (f i j)) v u H Q := by
  unfold binV at h
  cases ex : x.dat with
  | none => rw [ex] at h; cases h
  | some dx =>
    cases ey : y.dat with
    | none => rw [ex, ey] at h; cases h
    | some dy =>
      rw [ex, ey] at h
      obtain ⟨i, j, rfl, rfl, hc, rfl⟩ := hd dx dy h
      cases rx.int ex; cases ry.int ey
      exact ⟨i, j, rfl, rfl, hc, g.flat s rfl⟩
theorem subD_of {dx dy : PyData} {val : Val} (h : binD .sub dx dy = some val) : ∃ i j, dx = .int i ∧ dy = .int j ∧ True ∧ val = .d (.int (i - j)) := by
  have h : subD dx dy = some val := h
  unfold subD at h
  split at h
  · cases h; exact ⟨_, _, rfl, rfl, trivial, rfl⟩
  · cases h
theorem modD_of {dx dy : PyData} {val : Val} (h : binD .mod dx dy = some val) : ∃ i j, dx = .int i ∧ dy = .int j ∧ j ≠ 0 ∧ val = .d (.int (i.fmod j)) := by
  have h : modD dx dy = some val := h
  unfold modD at h
  split at h
  · split at h
    · cases h
    · rename_i hj; cases h; exact ⟨_, _, rfl, rfl, hj, rfl⟩
  · cases h
theorem fdivD_of {dx dy : PyData} {val : Val} (h : binD .fdiv dx dy = some val) : ∃ i j, dx = .int i ∧ dy = .int j ∧ CDivN i j ∧ val = .d (.int (i.fdiv j)) := by
  have h : fdivD dx dy = some val := h
  unfold fdivD at h
  split at h
  · split at h
    · rename_i hj
      cases h
      simp only [Bool.and_eq_true, decide_eq_true_eq] at hj
      exact ⟨_, _, rfl, rfl, ⟨by omega, by omega⟩, rfl⟩
    · cases h
  · cases h
theorem powD_of {dx dy : PyData} {val : Val} (h : binD .pow dx dy = some val) : ∃ i j, dx = .int i ∧ dy = .int j ∧ CPow i j ∧ val = .d (.int (i ^ j.toNat)) := by
  have h : powD dx dy = some val := h
  unfold powD at h
  split at h
  · split at h
    · rename_i hj
      cases h
      simp only [Bool.and_eq_true, decide_eq_true_eq] at hj
      exact ⟨_, _, rfl, rfl, ⟨hj.1.1, by omega, hj.2⟩, rfl⟩
    · cases h
  · cases h
theorem op_subM : OpR X (binaryOp .Sub) (rI (fun _ _ => True) fun i j => .int (i - j)) := fun pins s σ H x y v u Q I rx ry ⟨i, j, e1, e2, _, q⟩ => op_sub pins s σ H x y v u Q I rx ry ⟨i, j, e1, e2, q⟩
theorem s_bin {op : BOp} {a b : E} {x y : Expr} (ha : PE X x (tE (cfg X Γ xcl fx) W a false)) (hb : PE X y (tE (cfg X Γ xcl fx) W b false)) : PE X (.BinOp x (bop op) y pos) (tE (cfg X Γ xcl fx) W (.bin op a b) m) := by
  have go : ∀ {R : V → V → Hp → VK → Prop}, (∀ σ p H Q x y val v u, (cfg X Γ xcl fx).sim p H σ → (cfg X Γ xcl fx).rv p H v x → (cfg X Γ xcl fx).rv p H u y → binV op x y = some val → Got (cfg X Γ xcl fx) σ p H Q val → R v u H Q) →
      ∀ σ H Q, tE (cfg X Γ xcl fx) W (.bin op a b) m σ H Q → tOp R (tE (cfg X Γ xcl fx) W a false) (tE (cfg X Γ xcl fx) W b false) σ H Q := fun {R} hR σ H Q ⟨p, s, q⟩ => by
    have q : OutP ((ev Γ a false >>= fun x => ev Γ b false >>= fun y => M.of (binV op x y)) p.S) _ _ := q
    refine two s (outP_mono (outP_bind q) (fun _ _ z => outP_bind z) fun _ _ z => z) (fun _ _ z => z) fun x y v u H2 p2 q2 s2 st2 rx ry => ?_
    obtain ⟨val, e, q2⟩ := outP_of q2
    exact hR σ p2 H2 Q x y val v u s2 rx ry e (Got.of st2 q2)
  cases op with
  | add => exact (pe_op op_addM ha hb).weak (go fun σ p H Q x y val v u s rx ry e g => add_read s rx ry e g)
  | sub => exact (pe_op op_subM ha hb).weak (go fun σ p H Q x y val v u s rx ry e g => int2_read s rx ry e (fun _ _ h => subD_of (h)) g)
  | mul => exact (pe_op op_mulM ha hb).weak (go fun σ p H Q x y val v u s rx ry e g => mul_read s rx ry e g)
  | mod => exact (pe_op op_modN ha hb).weak (go fun σ p H Q x y val v u s rx ry e g => int2_read s rx ry e (fun _ _ h => modD_of h) g)
  | fdiv => exact (pe_op op_fdivN ha hb).weak (go fun σ p H Q x y val v u s rx ry e g => int2_read s rx ry e (fun _ _ h => fdivD_of h) g)
  | pow => exact (pe_op op_pow ha hb).weak (go fun σ p H Q x y val v u s rx ry e g => int2_read s rx ry e (fun _ _ h => powD_of h) g)
end
end Mini

set_option Elab.async false
set_option linter.all false
set_option maxRecDepth 100000
set_option maxHeartbeats 2000000
namespace Mini
open PySem PySem.Spec PyProof.Rows L2
/-! ### keys -/
def notBool : Value → Bool
  | .bool _ => false
  | _ => true
def flatKind (P : Program) (w : World) : KeyKind P w Leaf where
  is := fun k v => Leaf.isOf k v && notBool v
  hash := fun k => k.key.hash w
  inj := fun v a b ha hb => (leafKind P w).inj v a b (Bool.and_eq_true_iff.mp ha).1 (Bool.and_eq_true_iff.mp hb).1
  byValue := fun k v h => (leafKind P w).byValue k v (Bool.and_eq_true_iff.mp h).1
  pyHash := fun hv h => (leafKind P w).pyHash (Bool.and_eq_true_iff.mp hv).1 h
  eqBool := fun hu hv h => (leafKind P w).eqBool (Bool.and_eq_true_iff.mp hu).1 (Bool.and_eq_true_iff.mp hv).1 h
  «strs» := fun k x t v h => by
    have h1 := (leafKind P w).strs k x t v (Bool.and_eq_true_iff.mp h).1
    show (Leaf.isOf k v && notBool v) = v.isStr x
    have h1 : Leaf.isOf k v = v.isStr x := h1
    rw [h1]
    cases v <;> first | rfl | (simp [notBool])
def leafOf : PyData → Leaf
  | .int i => .num i
  | .str x => .text x
  | _ => .none
def flatKey : PyData → Bool
  | .none | .int _ | .str _ => true
  | _ => false
theorem flatKey_of {x : PyData} (h : keyOk x = true) (ht : isTupD x = false) : flatKey x = true := by
  cases x with
  | none => rfl
  | bool b => cases h
  | int i => rfl
  | str x => rfl
  | list xs => cases h
  | tuple xs => cases ht
  | dict xs => cases h
theorem toKey_flat {x : PyData} (h : flatKey x = true) : toKey x = some (leafOf x).key := by
  cases x <;> first | (cases h; done) | rfl
theorem keyEq_flat {x y : PyData} (hx : flatKey x = true) (hy : flatKey y = true) : keyEq x y = decide (leafOf x = leafOf y) := by
  unfold keyEq
  rw [toKey_flat hx, toKey_flat hy]
  show NestedKey.beq _ _ = _
  rw [← NestedKey.decide_eq]
  by_cases e : leafOf x = leafOf y
  · rw [decide_eq_true e, e, decide_eq_true rfl]
  · rw [decide_eq_false e, decide_eq_false fun z => e (Leaf.key_inj z)]
def keyOf (x : PyData) : NestedKey := (toKey x).getD .none
theorem keyEq_of {x y : PyData} (hx : keyOk x = true) (hy : keyOk y = true) : keyEq x y = decide (keyOf x = keyOf y) := by
  unfold keyOk at hx hy
  unfold keyEq keyOf
  cases ex : toKey x with
  | none => rw [ex] at hx; simp at hx
  | some a =>
    cases ey : toKey y with
    | none => rw [ey] at hy; simp at hy
    | some b => exact (NestedKey.decide_eq a b).symm
theorem keyOk_some {x : PyData} (h : keyOk x = true) : toKey x = some (keyOf x) ∧ (keyOf x).depth ≤ 8 := by
  unfold keyOk at h
  unfold keyOf
  cases ex : toKey x with
  | none => rw [ex] at h; simp at h
  | some a => rw [ex] at h; simp at h; exact ⟨rfl, h.2⟩
section
variable {X : Cx} {pins : List (Addr × Obj)} {σ : L2.St} {H Hf : Hp} {s : Shared} {a : Addr} {kvs : List (PyData × PyData)}
theorem flat_is {P : Program} {w : World} {K : PySem.W.Frag} {H : Hp} {x : PyData} {v : V} {u : Value} (h : flatKey x = true) (r : Rp w K H v x) (ru : RelV v u) : (flatKind P w).is (leafOf x) u = true := by
  cases x with
  | none => cases r; cases ru; rfl
  | int i => cases r; obtain ⟨t, rfl⟩ := ru; show (decide (i = i) && true) = true; simp
  | str y => cases r; obtain ⟨t, rfl⟩ := ru; show (Value.isStrOf y (.str y t) && true) = true; simp [Value.isStrOf]
  | bool b => cases h
  | list xs => cases h
  | tuple xs => cases h
  | dict xs => cases h
theorem is_flat {P : Program} {w : World} {K : PySem.W.Frag} {H : Hp} {x : PyData} {u : Value} (h : flatKey x = true) (e : (flatKind P w).is (leafOf x) u = true) : RelV (toV x) u ∧ Rp w K H (toV x) x := by
  obtain ⟨e1, e2⟩ := Bool.and_eq_true_iff.mp e
  cases x with
  | none =>
    refine ⟨?_, .non⟩
    cases u <;> first | rfl | (exact absurd e1 Bool.false_ne_true)
  | int i =>
    refine ⟨?_, .int i⟩
    cases u with
    | int j t => have e1 : j = i := of_decide_eq_true e1; subst e1; exact ⟨t, rfl⟩
    | bool b => cases e2
    | _ => exact absurd e1 Bool.false_ne_true
  | str y =>
    refine ⟨?_, .str y⟩
    obtain ⟨t, rfl⟩ := Value.isStrOf_shape (show Value.isStrOf y u = true from e1)
    exact ⟨t, rfl⟩
  | bool b => cases h
  | list xs => cases h
  | tuple xs => cases h
  | dict xs => cases h
mutual
theorem Rp.nested (I : Inv X pins σ H s) : ∀ (x : PyData) (k : NestedKey) (v : V) (u : Value), toKey x = some k → Rp X.w X.K H v x → RelV v u → NestedIs s.heap k u
  | .none, k, _, _, e, r, q => by cases e; cases r; cases q; exact .none
  | .bool b, k, _, _, e, r, q => by cases e; cases r; cases q; exact .bool rfl
  | .int i, k, _, _, e, r, q => by cases e; cases r; obtain ⟨t, rfl⟩ := q; exact .int i t
  | .str y, k, _, _, e, r, q => by cases e; cases r; obtain ⟨t, rfl⟩ := q; exact .text y t
  | .tuple xs, k, _, _, e, r, q => by
    obtain ⟨ks, e1, rfl⟩ := Option.map_eq_some_iff.mp (show (toKeys xs).map NestedKey.tup = some k from e)
    cases r with
    | tup h1 h2 =>
      cases q
      obtain ⟨its, rv, ⟨o, ho, hc, n, hd⟩, _⟩ := I.tuple h1
      exact .tup ho hc hd (Rp.nestedAll I xs ks _ _ e1 h2 rv)
  | .list _, k, _, _, e, _, _ => by cases e
  | .dict _, k, _, _, e, _, _ => by cases e
theorem Rp.nestedAll (I : Inv X pins σ H s) : ∀ (xs : List PyData) (ks : List NestedKey) (vs : List V) (us : List Value), toKeys xs = some ks → RpAll X.w X.K H vs xs → Vals vs us → NestedAll s.heap ks us
  | [], ks, _, _, e, r, q => by cases e; cases r; cases q; exact .nil
  | x :: xs, ks, _, _, e, r, q => by
    unfold toKeys at e
    cases e1 : toKey x with
    | none => rw [e1] at e; cases e
    | some k =>
      cases e2 : toKeys xs with
      | none => rw [e1, e2] at e; cases e
      | some kr =>
        rw [e1, e2] at e
        cases e
        cases r with
        | cons r1 r2 =>
          cases q with
          | cons q1 q2 => exact .cons (Rp.nested I x k _ _ e1 r1 q1) (Rp.nestedAll I xs kr _ _ e2 r2 q2)
end
/-! ### all keys of a table -/
theorem keysWith_of {ks : List PyData} {k : PyData} (h : keysWith ks k = true) : keyOk k = true ∧ ∀ x ∈ ks, isTupD x = isTupD k := by
  unfold keysWith at h
  simp only [Bool.and_eq_true, List.all_eq_true, beq_iff_eq] at h
  exact h
theorem keysOk_all : ∀ {ks : List PyData}, keysOk ks = true → ∀ x ∈ ks, keyOk x = true
  | k :: r, h, x, hx => by
    have h : (keysWith r k && !sHas r k && keysOk r) = true := h
    simp only [Bool.and_eq_true] at h
    rcases List.mem_cons.mp hx with e | hx
    · rw [e]; exact (keysWith_of h.1.1).1
    · exact keysOk_all h.2 x hx
theorem keysOk_nodup {β : Type} [DecidableEq β] {f : PyData → β} : ∀ {ks : List PyData}, keysOk ks = true → (∀ x ∈ ks, ∀ y ∈ ks, keyEq x y = decide (f x = f y)) → (ks.map f).Nodup
  | [], _, _ => List.nodup_nil
  | k :: r, h, hf => by
    have h : (keysWith r k && !sHas r k && keysOk r) = true := h
    simp only [Bool.and_eq_true, Bool.not_eq_true'] at h
    rw [List.map_cons, List.nodup_cons]
    refine ⟨fun hm => ?_, keysOk_nodup h.2 fun x hx y hy => hf x (List.mem_cons_of_mem _ hx) y (List.mem_cons_of_mem _ hy)⟩
    obtain ⟨y, hy, e⟩ := List.mem_map.mp hm
    have e2 : keyEq y k = true := by rw [hf y (List.mem_cons_of_mem _ hy) k List.mem_cons_self]; exact decide_eq_true e
    have : sHas r k = true := List.any_eq_true.mpr ⟨y, hy, e2⟩
    rw [h.1.2] at this; cases this
/-! ### the dict as the library tells it -/
theorem pairs_flat {P : Program} {w : World} {K : PySem.W.Frag} : ∀ {es : List DictEntry} {kvs : List (PyData × PyData)} {kw vw : List V}, Vals kw (es.map (·.key)) → Vals vw (es.map (·.val)) → RpAll w K Hf kw (kvs.map (·.1)) → RpAll w K Hf vw (kvs.map (·.2)) → (∀ p ∈ kvs, flatKey p.1 = true) →
    es.map (·.hash) = kvs.map (fun p => hashD w p.1) →
    ∃ ps : List (Leaf × Value), Pairs (flatKind P w) es ps ∧ (∀ e ∈ es, ∃ k, (flatKind P w).is k e.key = true ∧ e.hash = (flatKind P w).hash k) ∧ Paired (fun (p : PyData × PyData) (q : Leaf × Value) => q.1 = leafOf p.1 ∧ ∃ v, RelV v q.2 ∧ Rp w K Hf v p.2) kvs ps
  | [], [], _, _, _, _, _, _, _, _ => ⟨[], .nil, (fun _ h => by cases h), .nil⟩
  | [], _ :: _, _, _, .nil, _, h, _, _, _ => by cases h
  | _ :: _, [], _, _, h, _, .nil, _, _, _ => by cases h
  | e :: es, (x, y) :: kvs, kv :: kw, vv :: vw, .cons k1 k2, .cons v1 v2, .cons r1 r2, .cons q1 q2, hf, hh => by
    have hx : flatKey x = true := hf (x, y) List.mem_cons_self
    simp only [List.map_cons, List.cons.injEq] at hh
    obtain ⟨ps, h1, h2, h3⟩ := pairs_flat (P := P) k2 v2 r2 q2 (fun p hp => hf p (List.mem_cons_of_mem _ hp)) hh.2
    have hi := flat_is (P := P) hx r1 k1
    refine ⟨(leafOf x, e.val) :: ps, .cons hi rfl h1, fun e' he' => ?_, .cons ⟨rfl, vv, v1, q1⟩ h3⟩
    rcases List.mem_cons.mp he' with z | z
    · subst z
      refine ⟨leafOf x, hi, ?_⟩
      rw [hh.1]
      show hashD w x = (leafOf x).key.hash w
      unfold hashD
      rw [toKey_flat hx]
    · exact h2 e' z
theorem dic_flat (I : Inv X pins σ H s) (d : DicAt X.w X.K Hf H a kvs) (hf : ∀ p ∈ kvs, isTupD p.1 = false) :
    ∃ ps : List (Leaf × Value), s.heap.DictOf (flatKind X.prog X.w) a ps ∧ Paired (fun (p : PyData × PyData) (q : Leaf × Value) => q.1 = leafOf p.1 ∧ ∃ v, RelV v q.2 ∧ Rp X.w X.K Hf v p.2) kvs ps := by
  obtain ⟨o, es, ep, kw, vw, h1, h2, h3, h4, h5, h6, h7, h8, h9, h10⟩ := d
  obtain ⟨q, _, _⟩ := I.hok _ _ h1
  have hk := keysOk_all h10
  have hfl : ∀ p ∈ kvs, flatKey p.1 = true := fun p hp => flatKey_of (hk p.1 (List.mem_map.mpr ⟨p, hp, rfl⟩)) (hf p hp)
  obtain ⟨ps, g1, g2, g3⟩ := pairs_flat (P := X.prog) h5 h6 h7 h8 hfl h9
  refine ⟨ps, ⟨o, es, ep, q, h3, h4, fun e he => g2 e (Array.mem_toList_iff.mpr he), g1, ?_⟩, g3⟩
  have e : ps.map (·.1) = (kvs.map (·.1)).map leafOf := by
    clear g1 g2 h7 h8 h9 h10 hk hf hfl
    induction g3 with
    | nil => rfl
    | cons r _ ih => rw [List.map_cons, List.map_cons, List.map_cons, r.1, ih]
  rw [e]
  refine keysOk_nodup h10 fun x hx y hy => ?_
  obtain ⟨p, hp, rfl⟩ := List.mem_map.mp hx
  obtain ⟨p', hp', rfl⟩ := List.mem_map.mp hy
  exact keyEq_flat (hfl p hp) (hfl p' hp')
theorem pairs_tup {P : Program} {w : World} {K : PySem.W.Frag} : ∀ {es : List DictEntry} {kvs : List (PyData × PyData)} {kw vw : List V}, Vals kw (es.map (·.key)) → Vals vw (es.map (·.val)) → RpAll w K Hf kw (kvs.map (·.1)) → RpAll w K Hf vw (kvs.map (·.2)) → (∀ p ∈ kvs, isTupD p.1 = true ∧ keyOk p.1 = true) →
    es.map (·.hash) = kvs.map (fun p => hashD w p.1) →
    ∃ xs : List (NestedKey × Addr × Value), es = xs.map (entryOfKey (nestedKind P w)) ∧ Paired (fun (p : PyData × PyData) (q : NestedKey × Addr × Value) => q.1 = keyOf p.1 ∧ Rp w K Hf (.ref q.2.1) p.1 ∧ ∃ v, RelV v q.2.2 ∧ Rp w K Hf v p.2) kvs xs
  | [], [], _, _, _, _, _, _, _, _ => ⟨[], rfl, .nil⟩
  | [], _ :: _, _, _, .nil, _, h, _, _, _ => by cases h
  | _ :: _, [], _, _, h, _, .nil, _, _, _ => by cases h
  | e :: es, (x, y) :: kvs, kv :: kw, vv :: vw, .cons k1 k2, .cons v1 v2, .cons r1 r2, .cons q1 q2, hf, hh => by
    obtain ⟨hx, hk⟩ := hf (x, y) List.mem_cons_self
    simp only [List.map_cons, List.cons.injEq] at hh
    obtain ⟨xs, h1, h2⟩ := pairs_tup (P := P) k2 v2 r2 q2 (fun p hp => hf p (List.mem_cons_of_mem _ hp)) hh.2
    have hb : ∃ b, kv = .ref b := by
      have hx : isTupD x = true := hx
      cases x with
      | tuple xs => cases r1; exact ⟨_, rfl⟩
      | _ => cases hx
    obtain ⟨b, rfl⟩ := hb
    have ek : e.key = .ref b := k1
    have hh1 : e.hash = (keyOf x).hash w := by
      rw [hh.1]
      show hashD w x = _
      unfold hashD
      rw [(keyOk_some hk).1]
    refine ⟨(keyOf x, b, e.val) :: xs, ?_, .cons ⟨rfl, r1, vv, v1, q1⟩ h2⟩
    rw [List.map_cons, ← h1]
    congr 1
    show e = ⟨(keyOf x).hash w, .ref b, e.val⟩
    rw [← hh1, ← ek]
theorem dic_tup (I : Inv X pins σ H s) (sub : Same Hf H) (d : DicAt X.w X.K Hf H a kvs) (hf : ∀ p ∈ kvs, isTupD p.1 = true) :
    ∃ xs : List (NestedKey × Addr × Value), s.heap.DictOfH (nestedKind X.prog X.w) a xs ∧ Paired (fun (p : PyData × PyData) (q : NestedKey × Addr × Value) => q.1 = keyOf p.1 ∧ Rp X.w X.K Hf (.ref q.2.1) p.1 ∧ ∃ v, RelV v q.2.2 ∧ Rp X.w X.K Hf v p.2) kvs xs := by
  obtain ⟨o, es, ep, kw, vw, h1, h2, h3, h4, h5, h6, h7, h8, h9, h10⟩ := d
  obtain ⟨q, _, _⟩ := I.hok _ _ h1
  have hk := keysOk_all h10
  have hfl : ∀ p ∈ kvs, isTupD p.1 = true ∧ keyOk p.1 = true := fun p hp => ⟨hf p hp, hk p.1 (List.mem_map.mpr ⟨p, hp, rfl⟩)⟩
  obtain ⟨xs, g1, g3⟩ := pairs_tup (P := X.prog) h5 h6 h7 h8 hfl h9
  have e : xs.map (·.1) = (kvs.map (·.1)).map keyOf := by
    clear g1 h7 h8 h9 h10 hk hf hfl
    induction g3 with
    | nil => rfl
    | cons r _ ih => rw [List.map_cons, List.map_cons, List.map_cons, r.1, ih]
  have his : ∀ x ∈ xs, (nestedKind X.prog X.w).is s.heap x.1 x.2.1 := by
    clear g1 e h7 h8 h9 h10 hk hf
    induction g3 with
    | nil => exact fun _ h => nomatch h
    | @cons p q ps qs r _ ih =>
      intro x hx
      rcases List.mem_cons.mp hx with z | z
      · subst z
        obtain ⟨r1, r2, _⟩ := r
        obtain ⟨e1, e2⟩ := keyOk_some (hfl p List.mem_cons_self).2
        exact ⟨by rw [r1]; exact Rp.nested I p.1 _ _ _ e1 (Rp.mono sub _ _ r2) rfl, by rw [r1]; exact e2⟩
      · exact ih (fun p hp => hfl p (List.mem_cons_of_mem _ hp)) x z
  refine ⟨xs, ⟨o, es, ep, q, h3, h4, g1, his, ?_⟩, g3⟩
  rw [e]
  exact keysOk_nodup h10 fun x hx y hy => keyEq_of (hk x hx) (hk y hy)
end
end Mini

set_option Elab.async false
set_option linter.all false
set_option maxRecDepth 100000
set_option maxHeartbeats 2000000
namespace Mini
open PySem PySem.Spec PyProof.Rows L2
section
variable {X : Cx} {pins : List (Addr × Obj)} {σ : L2.St} {H Hf : Hp} {s : Shared} {a : Addr} {kvs : List (PyData × PyData)}
/-! ### what is found -/
theorem find_flat {w : World} {K : PySem.W.Frag} {k : PyData} (hk : flatKey k = true) : ∀ {kvs : List (PyData × PyData)} {ps : List (Leaf × Value)}, Paired (fun (p : PyData × PyData) (q : Leaf × Value) => q.1 = leafOf p.1 ∧ ∃ v, RelV v q.2 ∧ Rp w K Hf v p.2) kvs ps → (∀ p ∈ kvs, flatKey p.1 = true) →
    (dGet kvs k = none ∧ valueAt ps (leafOf k) = none) ∨ ∃ d u v, dGet kvs k = some d ∧ valueAt ps (leafOf k) = some u ∧ RelV v u ∧ Rp w K Hf v d
  | [], [], _, _ => .inl ⟨rfl, rfl⟩
  | (x, y) :: kvs, q :: ps, .cons ⟨h1, v, h2, h3⟩ r, hf => by
    have hx : flatKey x = true := hf (x, y) List.mem_cons_self
    have e := keyEq_flat hx hk
    unfold dGet valueAt
    rw [List.find?_cons, List.find?_cons]
    by_cases z : leafOf x = leafOf k
    · have z' : q.1 = leafOf k := h1.trans z
      rw [show keyEq x k = true from e.trans (decide_eq_true z), decide_eq_true z']
      exact .inr ⟨y, q.2, v, rfl, rfl, h2, h3⟩
    · have z' : ¬ q.1 = leafOf k := fun e => z (h1.symm.trans e)
      rw [show keyEq x k = false from e.trans (decide_eq_false z), decide_eq_false z']
      exact find_flat hk r fun p hp => hf p (List.mem_cons_of_mem _ hp)
theorem find_tup {w : World} {K : PySem.W.Frag} {k : PyData} (hk : keyOk k = true) : ∀ {kvs : List (PyData × PyData)} {xs : List (NestedKey × Addr × Value)}, Paired (fun (p : PyData × PyData) (q : NestedKey × Addr × Value) => q.1 = keyOf p.1 ∧ Rp w K Hf (.ref q.2.1) p.1 ∧ ∃ v, RelV v q.2.2 ∧ Rp w K Hf v p.2) kvs xs → (∀ p ∈ kvs, keyOk p.1 = true) →
    (dGet kvs k = none ∧ atKey xs (keyOf k) = none) ∨ ∃ d u v, dGet kvs k = some d ∧ atKey xs (keyOf k) = some u ∧ RelV v u.2 ∧ Rp w K Hf v d
  | [], [], _, _ => .inl ⟨rfl, rfl⟩
  | (x, y) :: kvs, q :: ps, .cons ⟨h1, _, v, h2, h3⟩ r, hf => by
    have hx : keyOk x = true := hf (x, y) List.mem_cons_self
    have e := keyEq_of hx hk
    unfold dGet atKey
    rw [List.find?_cons, List.find?_cons]
    by_cases z : keyOf x = keyOf k
    · have z' : q.1 = keyOf k := h1.trans z
      rw [show keyEq x k = true from e.trans (decide_eq_true z), decide_eq_true z']
      exact .inr ⟨y, q.2, v, rfl, rfl, h2, h3⟩
    · have z' : ¬ q.1 = keyOf k := fun e => z (h1.symm.trans e)
      rw [show keyEq x k = false from e.trans (decide_eq_false z), decide_eq_false z']
      exact find_tup hk r fun p hp => hf p (List.mem_cons_of_mem _ hp)
theorem dHas_get {kvs : List (PyData × PyData)} {k : PyData} : dHas kvs k = (dGet kvs k).isSome := by
  unfold dHas dGet
  rw [Option.isSome_map]
  induction kvs with
  | nil => rfl
  | cons p r ih =>
    rw [List.any_cons, List.find?_cons]
    cases h : keyEq p.1 k with
    | true => rfl
    | false => exact ih
/-- a dict, asked for a key -/
structure Ask (X : Cx) (H Hf : Hp) (a : Addr) (kvs : List (PyData × PyData)) (y : V) (k : PyData) : Prop where
  sub : Same Hf H
  d : DicAt X.w X.K Hf H a kvs
  ky : Rp X.w X.K H y k
  kw : keysWith (kvs.map (·.1)) k = true
/-- both ways to look -/
theorem ask_cases (I : Inv X pins σ H s) (q : Ask X H Hf a kvs y k) {u : Value} (ru : RelV y u) :
    (flatKey k = true ∧ (∀ p ∈ kvs, flatKey p.1 = true) ∧ (flatKind X.prog X.w).is (leafOf k) u = true ∧ ∃ ps, s.heap.DictOf (flatKind X.prog X.w) a ps ∧ Paired (fun (p : PyData × PyData) (q : Leaf × Value) => q.1 = leafOf p.1 ∧ ∃ v, RelV v q.2 ∧ Rp X.w X.K Hf v p.2) kvs ps) ∨
    (isTupD k = true ∧ keyOk k = true ∧ (∀ p ∈ kvs, keyOk p.1 = true ∧ isTupD p.1 = true) ∧ ∃ b, u = .ref b ∧ y = .ref b ∧ (nestedKind X.prog X.w).is s.heap (keyOf k) b ∧ ∃ xs, s.heap.DictOfH (nestedKind X.prog X.w) a xs ∧ Paired (fun (p : PyData × PyData) (q : NestedKey × Addr × Value) => q.1 = keyOf p.1 ∧ Rp X.w X.K Hf (.ref q.2.1) p.1 ∧ ∃ v, RelV v q.2.2 ∧ Rp X.w X.K Hf v p.2) kvs xs) := by
  obtain ⟨sub, d, ky, kw⟩ := q
  obtain ⟨hk, hall⟩ := keysWith_of kw
  have hks : ∀ p ∈ kvs, keyOk p.1 = true := by
    obtain ⟨_, _, _, _, _, _, _, _, _, _, _, _, _, _, h10⟩ := id d
    exact fun p hp => keysOk_all h10 p.1 (List.mem_map.mpr ⟨p, hp, rfl⟩)
  have hty : ∀ p ∈ kvs, isTupD p.1 = isTupD k := fun p hp => hall p.1 (List.mem_map.mpr ⟨p, hp, rfl⟩)
  cases ht : isTupD k with
  | false =>
    refine .inl ⟨flatKey_of hk ht, fun p hp => flatKey_of (hks p hp) ((hty p hp).trans ht), flat_is (flatKey_of hk ht) ky ru, ?_⟩
    exact dic_flat I d fun p hp => (hty p hp).trans ht
  | true =>
    refine .inr ⟨rfl, hk, fun p hp => ⟨hks p hp, (hty p hp).trans ht⟩, ?_⟩
    have hb : ∃ b, y = .ref b := by
      cases k with
      | tuple xs => cases ky; exact ⟨_, rfl⟩
      | _ => cases ht
    obtain ⟨b, rfl⟩ := hb
    cases (show u = Value.ref b from ru)
    obtain ⟨e1, e2⟩ := keyOk_some hk
    exact ⟨b, rfl, rfl, ⟨Rp.nested I k _ _ _ e1 ky rfl, e2⟩, dic_tup I sub d fun p hp => (hty p hp).trans ht⟩
variable {y : V} {k : PyData} {u : Value} {A : Around} {E : Value → Shared → Prop}
theorem nk_room {A : Around} (h : A.units + 64 < cLine) : (nestedKind X.prog X.w).room A.in1 := by
  show A.units + 1 + 8 < cLine
  omega
theorem Ask.sys (q : Ask X H Hf a kvs y k) : (a == sysModules) = false := by
  obtain ⟨_, _, _, _, _, _, h, _⟩ := q.d
  exact h
theorem ask_in {Q : Value → Shared → Prop} (hu : A.units + 64 < cLine) (I : Inv X pins σ H s) (q : Ask X H Hf a kvs y k) (ru : RelV y u) (h : ∀ s', Inv X pins σ H s' → Q (.bool (dHas kvs k)) s') :
    wpAny (model X.prog X.w) A (compareOp .In u (.ref a)) Q E s := by
  rcases ask_cases I q ru with ⟨fk, fks, is, ps, dd, pr⟩ | ⟨_, hk, hks, b, rfl, rfl, is, xs, dd, pr⟩
  · refine wpAny_in_of is q.sys dd.mapOf ?_
    have e : (valueAt ps (leafOf k)).isSome = dHas kvs k := by
      rw [dHas_get]
      rcases find_flat fk pr fks with ⟨e1, e2⟩ | ⟨_, _, _, e1, e2, _⟩ <;> rw [e1, e2] <;> rfl
    rw [e]
    exact h _ (I.tok _)
  · refine wpAny_in_heap (nk_room hu) is q.sys dd ?_
    have e : (atKey xs (keyOf k)).isSome = dHas kvs k := by
      rw [dHas_get]
      rcases find_tup hk pr (fun p hp => (hks p hp).1) with ⟨e1, e2⟩ | ⟨_, _, _, e1, e2, _⟩ <;> rw [e1, e2] <;> rfl
    rw [e]
    exact h _ (I.tok _)
theorem ask_notIn {Q : Value → Shared → Prop} (hu : A.units + 64 < cLine) (I : Inv X pins σ H s) (q : Ask X H Hf a kvs y k) (ru : RelV y u) (h : ∀ s', Inv X pins σ H s' → Q (.bool (!dHas kvs k)) s') :
    wpAny (model X.prog X.w) A (compareOp .NotIn u (.ref a)) Q E s := by
  rcases ask_cases I q ru with ⟨fk, fks, is, ps, dd, pr⟩ | ⟨_, hk, hks, b, rfl, rfl, is, xs, dd, pr⟩
  · refine wpAny_notIn_of is q.sys dd.mapOf ?_
    have e : (valueAt ps (leafOf k)).isSome = dHas kvs k := by
      rw [dHas_get]
      rcases find_flat fk pr fks with ⟨e1, e2⟩ | ⟨_, _, _, e1, e2, _⟩ <;> rw [e1, e2] <;> rfl
    rw [e]
    exact h _ (I.tok _)
  · refine wpAny_notIn_heap (nk_room hu) is q.sys dd ?_
    have e : (atKey xs (keyOf k)).isSome = dHas kvs k := by
      rw [dHas_get]
      rcases find_tup hk pr (fun p hp => (hks p hp).1) with ⟨e1, e2⟩ | ⟨_, _, _, e1, e2, _⟩ <;> rw [e1, e2] <;> rfl
    rw [e]
    exact h _ (I.tok _)
theorem ask_item {Q : Value → Shared → Prop} {d : PyData} (hu : A.units + 64 < cLine) (I : Inv X pins σ H s) (q : Ask X H Hf a kvs y k) (ru : RelV y u) (hd : dGet kvs k = some d) (h : ∀ v w' s', Inv X pins σ H s' → RelV v w' → Rp X.w X.K Hf v d → Q w' s') :
    wpAny (model X.prog X.w) A (getItem (.ref a) u) Q E s := by
  rcases ask_cases I q ru with ⟨fk, fks, is, ps, dd, pr⟩ | ⟨_, hk, hks, b, rfl, rfl, is, xs, dd, pr⟩
  · rcases find_flat fk pr fks with ⟨e1, e2⟩ | ⟨d', u', v, e1, e2, r1, r2⟩
    · rw [hd] at e1; cases e1
    · rw [hd] at e1; cases e1
      exact wpAny_getItem_of is dd.mapOf e2 (h v u' _ (I.tok _) r1 r2)
  · rcases find_tup hk pr (fun p hp => (hks p hp).1) with ⟨e1, e2⟩ | ⟨d', u', v, e1, e2, r1, r2⟩
    · rw [hd] at e1; cases e1
    · rw [hd] at e1; cases e1
      exact wpAny_getItem_heap (nk_room hu) is dd e2 (h v u'.2 _ (I.tok _) r1 r2)
theorem ask_get1 {Q : Value → Shared → Prop} (hu : A.units + 64 < cLine) (I : Inv X pins σ H s) (q : Ask X H Hf a kvs y k) (ru : RelV y u) (h : ∀ v w' s', Inv X pins σ H s' → RelV v w' → Rp X.w X.K Hf v ((dGet kvs k).getD .none) → Q w' s') :
    wpAny (model X.prog X.w) A (call (.builtin "dict.get") [.ref a, u]) Q E s := by
  rcases ask_cases I q ru with ⟨fk, fks, is, ps, dd, pr⟩ | ⟨_, hk, hks, b, rfl, rfl, is, xs, dd, pr⟩
  · refine call_meetsIn PySem.F.slot_dict_get dd.typeIs PySem.F.entry_dict_get (PySem.F.args_dict_get_2 _ _) (meets_dict_get (flatKind X.prog X.w) a is q.sys) ⟨_, dd.mapOf, ?_⟩
    rcases find_flat fk pr fks with ⟨e1, e2⟩ | ⟨d', u', v, e1, e2, r1, r2⟩
    · rw [e2]; exact h .non _ _ (I.tok _) rfl (by rw [e1]; exact .non)
    · rw [e2]; exact h v u' _ (I.tok _) r1 (by rw [e1]; exact r2)
  · refine call_meetsIn PySem.F.slot_dict_get dd.typeIs PySem.F.entry_dict_get (PySem.F.args_dict_get_2 _ _) (meetsH_dict_get (nestedKind X.prog X.w) a b q.sys) ⟨nk_room hu, keyOf k, xs, is, dd, ?_⟩
    rcases find_tup hk pr (fun p hp => (hks p hp).1) with ⟨e1, e2⟩ | ⟨d', u', v, e1, e2, r1, r2⟩
    · rw [e2]; exact h .non _ _ (I.tok _) rfl (by rw [e1]; exact .non)
    · rw [e2]; exact h v u'.2 _ (I.tok _) r1 (by rw [e1]; exact r2)
theorem ask_get2 {Q : Value → Shared → Prop} {x : V} {dx : PyData} {r : Value} (hu : A.units + 64 < cLine) (I : Inv X pins σ H s) (q : Ask X H Hf a kvs y k) (ru : RelV y u) (rx : Rp X.w X.K Hf x dx) (rr : RelV x r) (h : ∀ v w' s', Inv X pins σ H s' → RelV v w' → Rp X.w X.K Hf v ((dGet kvs k).getD dx) → Q w' s') :
    wpAny (model X.prog X.w) A (call (.builtin "dict.get") [.ref a, u, r]) Q E s := by
  rcases ask_cases I q ru with ⟨fk, fks, is, ps, dd, pr⟩ | ⟨_, hk, hks, b, rfl, rfl, is, xs, dd, pr⟩
  · refine call_meetsIn PySem.F.slot_dict_get dd.typeIs PySem.F.entry_dict_get (PySem.F.args_dict_get_3 _ _ _) (meets_dict_get_default (flatKind X.prog X.w) a is q.sys r) ⟨_, dd.mapOf, ?_⟩
    rcases find_flat fk pr fks with ⟨e1, e2⟩ | ⟨d', u', v, e1, e2, r1, r2⟩
    · rw [e2]; exact h x _ _ (I.tok _) rr (by rw [e1]; exact rx)
    · rw [e2]; exact h v u' _ (I.tok _) r1 (by rw [e1]; exact r2)
  · refine call_meetsIn PySem.F.slot_dict_get dd.typeIs PySem.F.entry_dict_get (PySem.F.args_dict_get_3 _ _ _) (meetsH_dict_get_default (nestedKind X.prog X.w) a b q.sys r) ⟨nk_room hu, keyOf k, xs, is, dd, ?_⟩
    rcases find_tup hk pr (fun p hp => (hks p hp).1) with ⟨e1, e2⟩ | ⟨d', u', v, e1, e2, r1, r2⟩
    · rw [e2]; exact h x _ _ (I.tok _) rr (by rw [e1]; exact rx)
    · rw [e2]; exact h v u'.2 _ (I.tok _) r1 (by rw [e1]; exact r2)
end
end Mini

set_option Elab.async false
set_option linter.all false
set_option maxRecDepth 100000
set_option maxHeartbeats 2000000
namespace Mini
open PySem PySem.Spec PyProof.Rows L2
section
variable {X : Cx} {pins : List (Addr × Obj)} {σ : L2.St} {H Hf : Hp} {s : Shared} {a : Addr} {kvs : List (PyData × PyData)}
theorem keyEq_symm {x y : PyData} : keyEq x y = keyEq y x := by
  unfold keyEq
  cases toKey x <;> cases toKey y <;> first | rfl | skip
  rename_i p q
  show NestedKey.beq p q = NestedKey.beq q p
  rw [← NestedKey.decide_eq, ← NestedKey.decide_eq]
  by_cases e : p = q
  · rw [e]
  · rw [decide_eq_false e, decide_eq_false fun z => e z.symm]
theorem keysOk_push : ∀ {ks : List PyData} {k : PyData}, keysOk ks = true → keysWith ks k = true → sHas ks k = false → keysOk (ks ++ [k]) = true
  | [], k, _, h, _ => by
    obtain ⟨h1, _⟩ := keysWith_of h
    show (keysWith [] k && !sHas [] k && true) = true
    rw [show keysWith [] k = true from h]; rfl
  | x :: r, k, h, hw, hn => by
    have h : (keysWith r x && !sHas r x && keysOk r) = true := h
    simp only [Bool.and_eq_true, Bool.not_eq_true'] at h
    obtain ⟨⟨h1, h2⟩, h3⟩ := h
    obtain ⟨w1, w2⟩ := keysWith_of hw
    obtain ⟨v1, v2⟩ := keysWith_of h1
    have hn' : (keyEq x k || sHas r k) = false := hn
    rw [Bool.or_eq_false_iff] at hn'
    have hk : keysWith r k = true := by
      unfold keysWith
      simp only [Bool.and_eq_true, List.all_eq_true, beq_iff_eq]
      exact ⟨w1, fun y hy => w2 y (List.mem_cons_of_mem _ hy)⟩
    show (keysWith (r ++ [k]) x && !sHas (r ++ [k]) x && keysOk (r ++ [k])) = true
    rw [keysOk_push h3 hk hn'.2]
    have e1 : keysWith (r ++ [k]) x = true := by
      unfold keysWith
      simp only [Bool.and_eq_true, List.all_eq_true, beq_iff_eq]
      refine ⟨v1, fun y hy => ?_⟩
      rcases List.mem_append.mp hy with z | z
      · exact v2 y z
      · cases List.mem_singleton.mp z
        exact (w2 x List.mem_cons_self).symm
    have e2 : sHas (r ++ [k]) x = false := by
      unfold sHas at h2 ⊢
      rw [List.any_append, h2]
      show (false || (keyEq k x || false)) = false
      rw [keyEq_symm, hn'.1]; rfl
    rw [e1, e2]; rfl
theorem dPut_keys {k d : PyData} : (dPut kvs k d).map (·.1) = if dHas kvs k then kvs.map (·.1) else kvs.map (·.1) ++ [k] := by
  unfold dPut
  split
  · rw [List.map_map]
    refine List.map_congr_left fun p _ => ?_
    show (if keyEq p.1 k then (p.1, d) else p).1 = p.1
    split <;> rfl
  · rw [List.map_append]; rfl
theorem sHas_map {k : PyData} : sHas (kvs.map (·.1)) k = dHas kvs k := by
  unfold sHas dHas
  rw [List.any_map]; rfl
theorem dPut_ok {k d : PyData} (h : keysOk (kvs.map (·.1)) = true) (hw : keysWith (kvs.map (·.1)) k = true) : keysOk ((dPut kvs k d).map (·.1)) = true := by
  rw [dPut_keys]
  split
  · exact h
  · rename_i hn
    exact keysOk_push h hw (by rw [sHas_map]; simpa using hn)
/-! ### the library's dict, as ours -/
theorem back_flat {P : Program} {w : World} {K : PySem.W.Frag} : ∀ {es : List DictEntry} {ps : List (Leaf × Value)} {kvs : List (PyData × PyData)}, Pairs (flatKind P w) es ps → (∀ e ∈ es, ∃ k, (flatKind P w).is k e.key = true ∧ e.hash = (flatKind P w).hash k) →
    Paired (fun (p : PyData × PyData) (q : Leaf × Value) => q.1 = leafOf p.1 ∧ ∃ v, RelV v q.2 ∧ Rp w K Hf v p.2) kvs ps → (∀ p ∈ kvs, flatKey p.1 = true) →
    ∃ kw vw, Vals kw (es.map (·.key)) ∧ Vals vw (es.map (·.val)) ∧ RpAll w K Hf kw (kvs.map (·.1)) ∧ RpAll w K Hf vw (kvs.map (·.2)) ∧ es.map (·.hash) = kvs.map (fun p => hashD w p.1)
  | [], [], [], _, _, _, _ => ⟨[], [], .nil, .nil, .nil, .nil, rfl⟩
  | e :: es, q :: ps, (x, y) :: kvs, .cons h1 h2 h3, hk, .cons ⟨r1, v, r2, r3⟩ r, hf => by
    obtain ⟨kw, vw, g1, g2, g3, g4, g5⟩ := back_flat h3 (fun e he => hk e (List.mem_cons_of_mem _ he)) r fun p hp => hf p (List.mem_cons_of_mem _ hp)
    have hx : flatKey x = true := hf (x, y) List.mem_cons_self
    rw [r1] at h1
    obtain ⟨e1, e2⟩ := is_flat (K := K) (H := Hf) hx h1
    obtain ⟨k', i1, i2⟩ := hk e List.mem_cons_self
    have ek := (flatKind P w).inj _ _ _ i1 h1
    refine ⟨toV x :: kw, v :: vw, .cons e1 g1, .cons (by show RelV v e.val; rw [h2]; exact r2) g2, .cons e2 g3, .cons r3 g4, ?_⟩
    rw [List.map_cons, List.map_cons, g5, i2, ek]
    congr 1
    show (leafOf x).key.hash w = hashD w x
    unfold hashD
    rw [toKey_flat hx]
theorem back_tup {P : Program} {w : World} {K : PySem.W.Frag} : ∀ {xs : List (NestedKey × Addr × Value)} {kvs : List (PyData × PyData)},
    Paired (fun (p : PyData × PyData) (q : NestedKey × Addr × Value) => q.1 = keyOf p.1 ∧ Rp w K Hf (.ref q.2.1) p.1 ∧ ∃ v, RelV v q.2.2 ∧ Rp w K Hf v p.2) kvs xs → (∀ p ∈ kvs, keyOk p.1 = true) →
    ∃ kw vw, Vals kw ((xs.map (entryOfKey (nestedKind P w))).map (·.key)) ∧ Vals vw ((xs.map (entryOfKey (nestedKind P w))).map (·.val)) ∧ RpAll w K Hf kw (kvs.map (·.1)) ∧ RpAll w K Hf vw (kvs.map (·.2)) ∧ (xs.map (entryOfKey (nestedKind P w))).map (·.hash) = kvs.map (fun p => hashD w p.1)
  | [], [], _, _ => ⟨[], [], .nil, .nil, .nil, .nil, rfl⟩
  | q :: xs, (x, y) :: kvs, .cons ⟨r1, r2, v, r3, r4⟩ r, hf => by
    obtain ⟨kw, vw, g1, g2, g3, g4, g5⟩ := back_tup (P := P) r fun p hp => hf p (List.mem_cons_of_mem _ hp)
    refine ⟨.ref q.2.1 :: kw, v :: vw, .cons rfl g1, .cons r3 g2, .cons r2 g3, .cons r4 g4, ?_⟩
    rw [List.map_cons, List.map_cons, List.map_cons, g5]
    congr 1
    show q.1.hash w = hashD w x
    unfold hashD
    rw [(keyOk_some (hf (x, y) List.mem_cons_self)).1, r1]
theorem put_flat {w : World} {K : PySem.W.Frag} {k d : PyData} {v : V} {r : Value} (hk : flatKey k = true) (rv : RelV v r) (rp : Rp w K Hf v d) {kvs : List (PyData × PyData)} {ps : List (Leaf × Value)} (pr : Paired (fun (p : PyData × PyData) (q : Leaf × Value) => q.1 = leafOf p.1 ∧ ∃ v, RelV v q.2 ∧ Rp w K Hf v p.2) kvs ps) (hf : ∀ p ∈ kvs, flatKey p.1 = true) :
    Paired (fun (p : PyData × PyData) (q : Leaf × Value) => q.1 = leafOf p.1 ∧ ∃ v, RelV v q.2 ∧ Rp w K Hf v p.2) (dPut kvs k d) (stored ps (leafOf k) r) := by
  have hh : dHas kvs k = ps.any (fun kv => decide (kv.1 = leafOf k)) := by
    induction pr with
    | nil => rfl
    | @cons p q kvs ps h t ih =>
      show (keyEq p.1 k || dHas kvs k) = (decide (q.1 = leafOf k) || _)
      rw [ih fun p hp => hf p (List.mem_cons_of_mem _ hp), keyEq_flat (hf p List.mem_cons_self) hk, h.1]
  unfold dPut stored
  rw [hh]
  split
  · clear hh
    rename_i z
    clear z
    induction pr with
    | nil => exact .nil
    | @cons p q kvs ps h t ih =>
      refine .cons ?_ (ih fun p hp => hf p (List.mem_cons_of_mem _ hp))
      have e := keyEq_flat (hf p List.mem_cons_self) hk
      dsimp only
      by_cases z : leafOf p.1 = leafOf k
      · have z' : q.1 = leafOf k := h.1.trans z
        rw [if_pos (e.trans (decide_eq_true z)), if_pos z']
        exact ⟨h.1, v, rv, rp⟩
      · have z' : ¬ q.1 = leafOf k := fun y => z (h.1.symm.trans y)
        rw [if_neg (show ¬ keyEq p.1 k = true by rw [e, decide_eq_false z]; decide), if_neg z']
        exact h
  · clear hh
    induction pr with
    | nil => exact .cons ⟨rfl, v, rv, rp⟩ .nil
    | @cons p q kvs ps h t ih => exact .cons h (ih (fun p hp => hf p (List.mem_cons_of_mem _ hp)) (by rename_i z; simp only [List.any_cons, Bool.or_eq_true, not_or] at z; exact z.2))
theorem put_tup {w : World} {K : PySem.W.Frag} {k d : PyData} {v : V} {r : Value} {b : Addr} (hk : keyOk k = true) (rb : Rp w K Hf (.ref b) k) (rv : RelV v r) (rp : Rp w K Hf v d) {kvs : List (PyData × PyData)} {xs : List (NestedKey × Addr × Value)} (pr : Paired (fun (p : PyData × PyData) (q : NestedKey × Addr × Value) => q.1 = keyOf p.1 ∧ Rp w K Hf (.ref q.2.1) p.1 ∧ ∃ v, RelV v q.2.2 ∧ Rp w K Hf v p.2) kvs xs) (hf : ∀ p ∈ kvs, keyOk p.1 = true) :
    Paired (fun (p : PyData × PyData) (q : NestedKey × Addr × Value) => q.1 = keyOf p.1 ∧ Rp w K Hf (.ref q.2.1) p.1 ∧ ∃ v, RelV v q.2.2 ∧ Rp w K Hf v p.2) (dPut kvs k d) (storedH xs (keyOf k) b r) := by
  have hh : dHas kvs k = (atKey xs (keyOf k)).isSome := by
    rw [dHas_get]
    rcases find_tup hk pr hf with ⟨e1, e2⟩ | ⟨_, _, _, e1, e2, _⟩ <;> rw [e1, e2] <;> rfl
  unfold dPut storedH
  rw [hh]
  split
  · clear hh
    rename_i z
    clear z
    induction pr with
    | nil => exact .nil
    | @cons p q kvs ps h t ih =>
      refine .cons ?_ (ih fun p hp => hf p (List.mem_cons_of_mem _ hp))
      have e := keyEq_of (hf p List.mem_cons_self) hk
      dsimp only
      by_cases z : keyOf p.1 = keyOf k
      · have z' : q.1 = keyOf k := h.1.trans z
        rw [if_pos (e.trans (decide_eq_true z))]
        unfold putAt
        rw [if_pos z']
        exact ⟨h.1, h.2.1, v, rv, rp⟩
      · have z' : ¬ q.1 = keyOf k := fun y => z (h.1.symm.trans y)
        rw [if_neg (show ¬ keyEq p.1 k = true by rw [e, decide_eq_false z]; decide)]
        unfold putAt
        rw [if_neg z']
        exact h
  · clear hh
    rename_i z
    clear z
    induction pr with
    | nil => exact .cons ⟨rfl, rb, v, rv, rp⟩ .nil
    | @cons p q kvs ps h t ih => exact .cons h (ih fun p hp => hf p (List.mem_cons_of_mem _ hp))
/-- an object written exactly -/
theorem exO_ok {P : Program} {w : World} {H : Hp} {h : Heap} {a : Addr} {o : Obj} (e : h.get? a = some o) : ObjOk P w H h a (exO a o) := ⟨e, ⟨o, e⟩, fun _ _ p k => k o p⟩
theorem write_ex {h' : Heap} {t' : Nat} {o o' : Obj} (I : Inv X pins σ H s) (e : H a = some (exO a o)) (hs : Heap.SameBut a s.heap h') (he : h'.get? a = some o') : Inv X pins σ (upd H a (exO a o')) { s with heap := h', toks := t' } :=
  I.write (x := a) (e := a) (by rw [e]; exact True.intro) (.inl rfl) (fun b q hb z => (hs.2 b hb).trans z) ⟨o', he⟩ (exO_ok he)
variable {y x : V} {k dx : PyData} {u r : Value} {A : Around} {E : Value → Shared → Prop}
theorem ask_set {Q : Unit → Shared → Prop} (hu : A.units + 64 < cLine) (I : Inv X pins σ H s) (q : Ask X H Hf a kvs y k) (hyf : Rp X.w X.K Hf y k) (ru : RelV y u) (rx : Rp X.w X.K Hf x dx) (rr : RelV x r) (hz : kvs.length ≤ sizeLine)
    (h : ∀ o' s', Inv X pins σ (upd H a (exO a o')) s' → DicAt X.w X.K Hf (upd H a (exO a o')) a (dPut kvs k dx) → Q () s') :
    wpAny (model X.prog X.w) A (setItem (.ref a) u r) Q E s := by
  have hsys := q.sys
  have cases' := ask_cases I q ru
  obtain ⟨sub, d, ky, kw⟩ := q
  obtain ⟨o, es, ep, kw0, vw0, h1, h2, h3, h4, h5, h6, h7, h8, h9, h10⟩ := d
  have hok := dPut_ok (d := dx) h10 kw
  rcases cases' with ⟨fk, fks, is, ps, dd, pr⟩ | ⟨_, hk, hks, b, rfl, rfl, is, xs, dd, pr⟩
  · have hl : ps.length ≤ sizeLine := by rw [← Paired.length pr]; exact hz
    refine wpAny_setItem_pairs (hsz := hl) is dd fun h' dd' hs => ?_
    obtain ⟨o', es', ep', g1, g2, g3, g4, g5, g6⟩ := dd'
    have fks' : ∀ p ∈ dPut kvs k dx, flatKey p.1 = true := fun p hp => by
      have hm : p.1 ∈ (dPut kvs k dx).map (·.1) := List.mem_map.mpr ⟨p, hp, rfl⟩
      rw [dPut_keys] at hm
      split at hm
      · obtain ⟨p', hp', e⟩ := List.mem_map.mp hm; rw [← e]; exact fks p' hp'
      · rcases List.mem_append.mp hm with hm | hm
        · obtain ⟨p', hp', e⟩ := List.mem_map.mp hm; rw [← e]; exact fks p' hp'
        · rw [List.mem_singleton.mp hm]; exact fk
    obtain ⟨kw', vw', b1, b2, b3, b4, b5⟩ := back_flat g5 (fun e he => g4 e (Array.mem_toList_iff.mp he)) (put_flat fk rr rx pr fks) fks'
    exact h o' _ (write_ex I h1 hs g1) ⟨o', es', ep', kw', vw', upd_same, hsys, g2, g3, b1, b2, b3, b4, b5, hok⟩
  · have hl : xs.length ≤ sizeLine := by rw [← Paired.length pr]; exact hz
    refine wpAny_setItem_heap (hsz := hl) (nk_room hu) is dd fun h' dd' hs => ?_
    obtain ⟨o', es', ep', g1, g2, g3, g4, _, g6⟩ := dd'
    have hks' : ∀ p ∈ dPut kvs k dx, keyOk p.1 = true := fun p hp => keysOk_all hok p.1 (List.mem_map.mpr ⟨p, hp, rfl⟩)
    obtain ⟨kw', vw', b1, b2, b3, b4, b5⟩ := back_tup (P := X.prog) (put_tup hk hyf rr rx pr (fun p hp => (hks p hp).1)) hks'
    exact h o' _ (write_ex I h1 hs g1) ⟨o', es', ep', kw', vw', upd_same, hsys, g2, g3, by rw [g4]; exact b1, by rw [g4]; exact b2, b3, b4, by rw [g4]; exact b5, hok⟩
end
end Mini

set_option Elab.async false
set_option linter.all false
set_option maxRecDepth 100000
set_option maxHeartbeats 4000000
namespace Mini
open PySem PySem.Spec PyProof.Rows L2
section
variable {P : Program} {w : World} {A : Around} {E : Value → Shared → Prop}
theorem nestedAll_mem {h : Heap} : ∀ {ks : List NestedKey} {vs : List Value}, NestedAll h ks vs → ∀ v ∈ vs, ∃ k ∈ ks, NestedIs h k v
  | _, _, .nil, v, hv => by cases hv
  | _, _, .cons h1 h2, v, hv => by
    rcases List.mem_cons.mp hv with e | hv
    · subst e; exact ⟨_, List.mem_cons_self, h1⟩
    · obtain ⟨k, hk, x⟩ := nestedAll_mem h2 v hv
      exact ⟨k, List.mem_cons_of_mem _ hk, x⟩
/-! ### what a set asks of its members -/
/-- whether a hash goes by value: either answer -/
theorem hb_key : ∀ (n : Nat) (k : NestedKey) (v : Value) (s : Shared) (Q : Bool → Shared → Prop), NestedIs s.heap k v → (∀ r, Q r s) → wpAny (model P w) A (hashByValue n v) Q E s
  | 0, k, _, s, Q, x, h => by cases x <;> exact wpAny_pure (h _)
  | n + 1, k, _, s, Q, x, h => by
    cases x with
    | none => exact wpAny_pure (h _)
    | bool _ => exact wpAny_pure (h _)
    | int _ _ => exact wpAny_pure (h _)
    | text _ _ => exact wpAny_pure (h _)
    | @tup a o vs m ks hg hc hd hk =>
      have hT : s.TypeIs (.ref a) "tuple" := ⟨o, hg, hc⟩
      unfold hashByValue
      refine wpAny_bind (wpAny_specialOf hT F.slot_tuple_hash.lookup ?_)
      show wpAny _ _ (seqItems? (.ref a) >>= _) _ _ s
      refine wpAny_bind (wpAny_seqItems hg hd (wpAny_bind ?_))
      show wpAny _ _ (forIn vs _ _) _ _ s
      rw [← Array.forIn_toList]
      refine wpAny_forIn_list _ (fun rest r s' => s' = s ∧ r.1 = none ∧ ∀ v ∈ rest, ∃ k, NestedIs s.heap k v) _ ?_ ?_ _ _ ⟨rfl, rfl, fun v hv => let ⟨k, _, x⟩ := nestedAll_mem hk v hv; ⟨k, x⟩⟩
      · rintro v rest r s' ⟨rfl, _, hall⟩
        obtain ⟨k, hx⟩ := hall v List.mem_cons_self
        refine wpAny_bind (hb_key n k v s' _ hx fun b => ?_)
        cases b with
        | true =>
          simp only [Bool.not_true, Bool.false_eq_true, if_false]
          exact wpAny_pure ⟨rfl, rfl, fun u hu => hall u (List.mem_cons_of_mem _ hu)⟩
        | false =>
          simp only [Bool.not_false, if_true]
          exact wpAny_pure (wpAny_pure (h false))
      · rintro ⟨r1, r2⟩ s' ⟨rfl, hr, _⟩
        simp only at hr; subst hr; exact wpAny_pure (h _)
theorem depth_mem {k : NestedKey} : ∀ {ks : List NestedKey}, k ∈ ks → k.depth ≤ NestedKey.depthAll ks
  | x :: ks, h => by
    rw [NestedKey.depthAll]
    rcases List.mem_cons.mp h with e | h
    · subst e; exact Nat.le_max_left _ _
    · exact Nat.le_trans (depth_mem h) (Nat.le_max_right _ _)
/-- no key is of a class statement's class -/
theorem oc_key : ∀ (n : Nat) (k : NestedKey) (v : Value) (s : Shared) (Q : Bool → Shared → Prop), NestedIs s.heap k v → k.depth ≤ n → Q false s → wpAny (model P w) A (ofAClassStatement n v) Q E s
  | n, k, _, s, Q, x, hn, h => by
    cases x with
    | none => cases n <;> exact wpAny_pure h
    | bool _ => cases n <;> exact wpAny_pure h
    | int _ _ => cases n <;> exact wpAny_pure h
    | text _ _ => cases n <;> exact wpAny_pure h
    | @tup a o vs m ks hg hc hd hk =>
      rw [NestedKey.depth] at hn
      match n, hn with
      | n + 1, hn =>
        have hT : s.TypeIs (.ref a) "tuple" := ⟨o, hg, hc⟩
        unfold ofAClassStatement
        refine wpAny_bind (wpAny_typeOf hT ?_)
        dsimp only
        have e : (("tuple" : String) == "tuple") = true := by decide
        simp only [e, if_true, Bool.not_true, Bool.false_eq_true, if_false]
        try refine wpAny_bind (wpAny_pure ?_)
        try simp only [Bool.not_true, Bool.false_eq_true, if_false]
        show wpAny _ _ (seqItems? (.ref a) >>= _) _ _ s
        refine wpAny_bind (wpAny_seqItems hg hd ?_)
        dsimp only
        refine wpAny_bind ?_
        show wpAny _ _ (forIn vs _ _) _ _ s
        rw [← Array.forIn_toList]
        refine wpAny_forIn_list _ (fun rest r s' => s' = s ∧ r.1 = none ∧ ∀ v ∈ rest, ∃ k, NestedIs s.heap k v ∧ k.depth ≤ n) _ ?_ ?_ _ _
          ⟨rfl, rfl, fun v hv => let ⟨k, hm, x⟩ := nestedAll_mem hk v hv; ⟨k, x, Nat.le_trans (depth_mem hm) (by omega)⟩⟩
        · rintro v rest r s' ⟨rfl, _, hall⟩
          obtain ⟨k, hx, hd'⟩ := hall v List.mem_cons_self
          refine wpAny_bind (oc_key n k v s' _ hx hd' ?_)
          simp only [Bool.false_eq_true, if_false]
          exact wpAny_pure ⟨rfl, rfl, fun u hu => hall u (List.mem_cons_of_mem _ hu)⟩
        · rintro ⟨r1, r2⟩ s' ⟨rfl, hr, _⟩
          simp only at hr; subst hr; exact wpAny_pure h
/-- the members of a set of tuples: each by its key and where it stands -/
abbrev Mem := NestedKey × Addr
def MemOk (h : Heap) (p : Mem) : Prop := NestedIs h p.1 (.ref p.2) ∧ p.1.depth ≤ 8
def rowsG (w : World) (L : List Mem) : List (Int × Value) := L.map fun p => (p.1.hash w, Value.ref p.2)
structure SetG (w : World) (h : Heap) (a : Addr) (L : List Mem) (es : Array (Int × Value)) (ep : Nat) (t : SetTable) : Prop where
  ob : ∃ o, h.get? a = some o ∧ o.ExactSet ∧ o.data = .set es ep t
  rows : es.toList = rowsG w L
  tab : TabOk t (L.map fun p => p.1.hash w)
  nd : (L.map (·.1)).Nodup
  mem : ∀ p ∈ L, MemOk h p
  led : w.params.followText "set-order" = true ∨ t.led = true
  room : L.length * 5 < t.mask * 3
  few : L.length < 64
variable {a : Addr} {L : List Mem} {es : Array (Int × Value)} {ep : Nat} {t : SetTable} {s : Shared}
theorem seen_key {x : Addr} {k : NestedKey} {Q : Bool → Shared → Prop} (hx : MemOk s.heap (k, x)) {ys : List Value} (hy : ∀ y ∈ ys, ∃ p : Mem, y = Value.ref p.2 ∧ MemOk s.heap p) (h : Q false s) :
    wpAny (model P w) A (searchCouldBeSeen (.ref x) ys) Q E s := by
  unfold searchCouldBeSeen
  refine wpAny_bind ?_
  refine wpAny_forIn_list _ (fun rest r s' => s' = s ∧ r.1 = none ∧ ∀ y ∈ rest, ∃ p : Mem, y = Value.ref p.2 ∧ MemOk s.heap p) _ ?_ ?_ _ _ ⟨rfl, rfl, hy⟩
  · rintro v rest r s' ⟨rfl, _, hall⟩
    obtain ⟨p, rfl, hp⟩ := hall v List.mem_cons_self
    have more : ∀ y ∈ rest, ∃ p : Mem, y = Value.ref p.2 ∧ MemOk s'.heap p := fun u hu => hall u (List.mem_cons_of_mem _ hu)
    dsimp only
    by_cases hv : (x == p.2 || (carriedByValue (.ref x) && carriedByValue (.ref p.2))) = true
    · exact wp_if_pos hv (wpAny_pure ⟨rfl, rfl, more⟩)
    · refine wp_if_neg hv ?_
      refine wpAny_bind (quiet_key k _ 8 s' hx.1 hx.2 _ _ _ ?_)
      simp only [Bool.not_true, Bool.false_eq_true, if_false]
      refine wpAny_bind (quiet_key p.1 _ 8 s' hp.1 hp.2 _ _ _ ?_)
      simp only [Bool.not_true, Bool.false_eq_true, if_false]
      refine wpAny_bind (oc_key 8 k _ s' _ hx.1 hx.2 ?_)
      simp only [Bool.false_eq_true, if_false]
      refine wpAny_bind (oc_key 8 p.1 _ s' _ hp.1 hp.2 ?_)
      simp only [Bool.false_eq_true, if_false]
      exact wpAny_pure ⟨rfl, rfl, more⟩
  · rintro ⟨r1, r2⟩ s' ⟨rfl, hr, _⟩
    simp only at hr; subst hr; exact wpAny_pure h
theorem SetG.size (R : SetG w s.heap a L es ep t) : es.size = L.length := by
  have h := congrArg List.length R.rows
  rwa [Array.length_toList, rowsG, List.length_map] at h
theorem SetG.fits (R : SetG w s.heap a L es ep t) : t.fits es.size = true := by
  have h1 := R.tab.sz
  rw [List.length_map] at h1
  have h2 := R.size
  have h3 := R.room
  unfold SetTable.fits SetTable.fill
  rw [R.tab.dm, Bool.and_eq_true, beq_iff_eq, decide_eq_true_eq]
  exact ⟨by omega, by show t.place.size + 0 ≤ t.mask; omega⟩
theorem SetG.entry (R : SetG w s.heap a L es ep t) {i : Nat} {p : Mem} (h : L[i]? = some p) : es[i]? = some (p.1.hash w, Value.ref p.2) := by
  rw [← Array.getElem?_toList, R.rows, rowsG, List.getElem?_map, h]; rfl
/-- the way of a hash through a table -/
abbrev pb (m : Nat) (h : Int) (c : Nat) : SetTable.Probe := nth m (runAt m (SetTable.bits h % (m + 1)) (SetTable.bits h)) c
theorem pb_dummy (m : Nat) (h : Int) (c : Nat) : (pb m h c).dummy = none := by
  have key : ∀ (n : Nat) (p : SetTable.Probe), p.dummy = none → (nth m p n).dummy = none := by
    intro n
    induction n with
    | zero => exact fun p e => e
    | succ n ih =>
      intro p e
      refine ih (adv m p) ?_
      unfold adv
      split <;> exact e
  exact key c _ rfl
theorem find_from (R : SetG w s.heap a L es ep t) {x : Addr} {k : NestedKey} (hx : MemOk s.heap (k, x)) (hu : A.units + 64 < cLine) {K : Nat} (hKf : K < 10 * SetTable.turns t.mask)
    (hK : way t.mask (k.hash w) K ∉ t.place.toList) (hKb : ∀ c, c < K → way t.mask (k.hash w) c ∈ t.place.toList) {Q : SetFound → Shared → Prop}
    (hin : k ∈ L.map (·.1) → Q (.there none) s) (hout : k ∉ L.map (·.1) → Q (.free (way t.mask (k.hash w) K) false) s) :
    ∀ (f c : Nat) (stand : Option SetTable.Probe), stand.getD (t.probeStart (k.hash w)) = pb t.mask (k.hash w) c → c ≤ K → K - c < f →
      (∀ (i : Nat) p, L[i]? = some p → p.1 = k → ∃ c', c ≤ c' ∧ c' < K ∧ t.place.toList[i]? = some (way t.mask (k.hash w) c')) →
      wpAny (model P w) A (setSearchFrom a (.ref x) (k.hash w) true f stand) Q E s := by
  intro f
  induction f with
  | zero => exact fun c stand _ _ hf _ => absurd hf (Nat.not_lt_zero _)
  | succ f ih =>
    intro c stand hst hc hf hre
    obtain ⟨o, ho, hex, hd⟩ := R.ob
    have hgw : ¬ t.gaveWay = true := by
      unfold SetTable.gaveWay
      rw [mask_odd R.tab.mok]; decide
    have sh : ∀ q, nth t.mask (pb t.mask (k.hash w) c) q = pb t.mask (k.hash w) (c + q) := fun q => (nth_add t.mask c _ q).symm
    have e1 : ∀ q, (nth t.mask (pb t.mask (k.hash w) c) q).j = way t.mask (k.hash w) (c + q) := fun q => congrArg SetTable.Probe.j (sh q)
    have hashAt : ∀ (i : Nat) p, L[i]? = some p → (fun i => (es[i]?.map (·.1)).getD 0) i = p.1.hash w := fun i p hp => by
      show (es[i]?.map (·.1)).getD 0 = _
      rw [R.entry hp]; rfl
    rw [setSearchFrom_succ]
    refine wpAny_bind (wpAny_setState_of ho hd R.fits ?_)
    dsimp only
    refine wp_if_neg hgw ?_
    try refine wpAny_bind (wpAny_pure ?_)
    rcases go_spec t R.tab.ris R.tab.dm (fun i => (es[i]?.map (·.1)).getD 0) (k.hash w) (10 * SetTable.turns t.mask) (K - c) _ (pb_dummy t.mask (k.hash w) c) (by omega)
      (fun q hq => by rw [e1]; exact hKb (c + q) (by omega)) (by rw [e1, show c + (K - c) = K by omega]; exact hK) with ⟨q, i, hq, hi, hh, hno, hpr⟩ | ⟨hno, hpr⟩
    · have hpr' : t.probe (fun i => (es[i]?.map (·.1)).getD 0) (k.hash w) (stand.getD (t.probeStart (k.hash w))) = some (.candidate (way t.mask (k.hash w) (c + q)) i (pb t.mask (k.hash w) (c + (q + 1)))) := by
        rw [hst, ← e1, ← sh]; exact hpr
      rw [hpr']
      dsimp only
      rw [e1] at hi
      have hil : i < L.length := by
        have h1 : i < t.place.toList.length := (List.getElem?_eq_some_iff.mp hi).1
        have h2 := R.tab.sz
        rw [List.length_map] at h2
        rw [Array.length_toList] at h1
        omega
      obtain ⟨p, hp⟩ : ∃ p, L[i]? = some p := ⟨L[i], List.getElem?_eq_getElem hil⟩
      have hmem : p ∈ L := List.mem_of_getElem? hp
      have hpm := R.mem p hmem
      have rest : wpAny (model P w) A (searchRest a (.ref x) (k.hash w) true f es t (way t.mask (k.hash w) (c + q)) i (pb t.mask (k.hash w) (c + (q + 1)))) Q E s := by
        unfold searchRest
        rw [R.entry hp]
        dsimp only
        have hd8 : min p.1.depth k.depth ≤ 8 := Nat.le_trans (Nat.min_le_left _ _) hpm.2
        refine wpAny_bind (wpAny_holding (eqAt_key p.1 k A s _ _ hpm.1 hx.1 (by omega) _ _ _ _ ?_))
        refine wpAny_bind (wpAny_setState_of ho hd R.fits ?_)
        dsimp only
        rw [← NestedKey.decide_eq]
        by_cases hkk : p.1 = k
        · refine wp_if_pos (by simp [hkk]) (wpAny_pure (hin (List.mem_map.mpr ⟨p, hmem, hkk⟩)))
        · refine wp_if_neg (by simp [hkk]) ?_
          try refine wpAny_bind (wpAny_pure ?_)
          rw [sameMem]
          dsimp only
          have hsl : t.slot (way t.mask (k.hash w) (c + q)) = .live i := slot_live R.tab.ris hi
          simp only [if_true, hsl, R.entry hp]
          refine wpAny_bind (wpAny_isSame_ref_self (wpAny_bind (wpAny_pure ?_)))
          simp only [if_true]
          refine wp_if_neg (by simp [hkk]) ?_
          refine ih (c + (q + 1)) _ rfl (by omega) (by omega) fun i0 p0 h0 hk0 => ?_
          obtain ⟨c', a1, a2, a3⟩ := hre i0 p0 h0 hk0
          refine ⟨c', ?_, a2, a3⟩
          rcases Nat.lt_trichotomy c' (c + q) with z | z | z
          · exact (hno (c' - c) i0 (by omega) (by rw [e1, show c + (c' - c) = c' by omega]; exact a3) ((hashAt i0 p0 h0).trans (by rw [hk0]))).elim
          · rw [z] at a3
            have s0 := slot_live R.tab.ris a3
            rw [hsl] at s0
            injection s0 with s0
            rw [← s0, hp] at h0
            exact (hkk (by rw [Option.some.inj h0]; exact hk0)).elim
          · omega
      by_cases hl : t.led = true
      · refine wp_if_neg (by simp [hl]) ?_
        try refine wpAny_bind (wpAny_pure ?_)
        exact rest
      · refine wp_if_pos (by simp [hl]) ?_
        refine wpAny_bind (seen_key hx (fun y hy => ?_) ?_)
        · obtain ⟨e, he, ee⟩ := List.mem_map.mp hy
          have he1 : e ∈ es ∧ e.1 = k.hash w := by simpa using he
          have he2 : e ∈ es.toList := by simpa using he1.1
          rw [R.rows] at he2
          obtain ⟨p2, hp2, e2⟩ := List.mem_map.mp he2
          exact ⟨p2, by rw [← ee, ← e2], R.mem p2 hp2⟩
        · refine wp_if_neg (by decide) ?_
          try refine wpAny_bind (wpAny_pure ?_)
          exact rest
    · have hpr' : t.probe (fun i => (es[i]?.map (·.1)).getD 0) (k.hash w) (stand.getD (t.probeStart (k.hash w))) = some (.empty (way t.mask (k.hash w) K) none) := by
        rw [hst, show way t.mask (k.hash w) K = (nth t.mask (pb t.mask (k.hash w) c) (K - c)).j by rw [e1, show c + (K - c) = K by omega]]
        exact hpr
      rw [hpr']
      dsimp only
      refine wpAny_pure (hout fun hm => ?_)
      obtain ⟨p0, h0, hk0⟩ := List.mem_map.mp hm
      obtain ⟨i0, hi0, e0⟩ := List.getElem_of_mem h0
      have h00 : L[i0]? = some p0 := by rw [List.getElem?_eq_getElem hi0, e0]
      obtain ⟨c', a1, a2, a3⟩ := hre i0 p0 h00 hk0
      exact hno (c' - c) i0 (by omega) (by rw [e1, show c + (c' - c) = c' by omega]; exact a3) ((hashAt i0 p0 h00).trans (by rw [hk0]))
theorem find_at (R : SetG w s.heap a L es ep t) {x : Addr} {k : NestedKey} (hx : MemOk s.heap (k, x)) (hu : A.units + 64 < cLine) {Q : SetFound → Shared → Prop} (hin : k ∈ L.map (·.1) → Q (.there none) s)
    (hout : ∀ K, k ∉ L.map (·.1) → way t.mask (k.hash w) K ∉ t.place.toList → (∀ c, c < K → way t.mask (k.hash w) c ∈ t.place.toList) → Q (.free (way t.mask (k.hash w) K) false) s) :
    wpAny (model P w) A (setSearch a (.ref x) (k.hash w) true) Q E s := by
  have hroom := R.room
  obtain ⟨K, hKf, hK, hKb⟩ := R.tab.first (by rw [List.length_map]; omega) (k.hash w)
  have hbig : 10 * SetTable.turns t.mask ≤ 1420 := by
    unfold SetTable.turns
    rcases R.tab.mok with e | e | e <;> omega
  unfold setSearch
  refine find_from R hx hu hKf hK hKb hin (fun hn => hout K hn hK hKb) 100000 0 none rfl (Nat.zero_le _) (by omega) fun i p hp hk => ?_
  have hi : (L.map fun p => p.1.hash w)[i]? = some (k.hash w) := by rw [List.getElem?_map, hp, ← hk]; rfl
  have hil : i < t.place.toList.length := by
    have h1 : i < L.length := (List.getElem?_eq_some_iff.mp hp).1
    have h2 := R.tab.sz
    rw [List.length_map] at h2
    rw [Array.length_toList]
    omega
  have hj := List.getElem?_eq_getElem hil
  obtain ⟨c, hc, e⟩ := R.tab.before hK hi hj
  exact ⟨c, Nat.zero_le _, hc, by rw [hj, e]⟩
end
end Mini

set_option Elab.async false
set_option linter.all false
set_option maxRecDepth 100000
set_option maxHeartbeats 4000000
namespace Mini
open PySem PySem.Spec PyProof.Rows L2
section
variable {P : Program} {w : World} {A : Around} {E : Value → Shared → Prop} {s : Shared} {a : Addr} {L : List Mem} {es : Array (Int × Value)} {ep : Nat} {t : SetTable}
/-- a member isn't the set -/
theorem MemOk.same {h h' : Heap} {p : Mem} {o : Obj} (hp : MemOk h p) (ho : h.get? a = some o) (hd : o.data = .set es ep t) (hs : Heap.SameBut a h h') : MemOk h' p :=
  ⟨NestedIs.at (fun b ob vs n hb hc => (hs.2 b fun e => by subst e; rw [ho] at hb; cases hb; rw [hd] at hc; cases hc).trans hb) _ _ hp.1, hp.2⟩
theorem rowsG_length (L : List Mem) : (rowsG w L).length = L.length := List.length_map ..
theorem picked (L : List Mem) (es : Array (Int × Value)) (order : Array Nat) (hr : es.toList = rowsG w L) (hp : order.toList.Perm (List.range L.length)) :
    ∃ L2, (order.filterMap (es[·]?)).toList = rowsG w L2 ∧ L2.Perm L ∧ (L2.map fun p => p.1.hash w) = order.toList.map fun i => (es.map (·.1)).getD i 0 := by
  have ent : ∀ (i : Nat) (h : i < L.length), es[i]? = some ((L[i]).1.hash w, Value.ref (L[i]).2) := fun i h => by
    rw [← Array.getElem?_toList, hr, rowsG, List.getElem?_map, List.getElem?_eq_getElem h]; rfl
  have hsz : es.size = L.length := by rw [← Array.length_toList, hr, rowsG_length]
  have key : ∀ l : List Nat, (∀ i ∈ l, i < L.length) → l.filterMap (fun i => es[i]?) = rowsG w (l.filterMap fun i => L[i]?) ∧ ((l.filterMap fun i => L[i]?).map fun p => p.1.hash w) = l.map fun i => (es.map (·.1)).getD i 0 := by
    intro l
    induction l with
    | nil => exact fun _ => ⟨rfl, rfl⟩
    | cons i l ih =>
      intro hl
      have hi := hl i List.mem_cons_self
      obtain ⟨e1, e2⟩ := ih fun j hj => hl j (List.mem_cons_of_mem _ hj)
      rw [List.filterMap_cons_some (ent i hi), List.filterMap_cons_some (List.getElem?_eq_getElem hi)]
      refine ⟨by rw [e1]; rfl, ?_⟩
      rw [List.map_cons, List.map_cons, e2]
      congr 1
      have e5 : (es.map (·.1))[i]? = some ((L[i]).1.hash w) := by rw [Array.getElem?_map, ent i hi]; rfl
      simp [Array.getD_eq_getD_getElem?, e5]
  obtain ⟨e1, e2⟩ := key order.toList fun i hi => List.mem_range.mp (hp.mem_iff.mp hi)
  refine ⟨_, by first | (rw [Array.toList_filterMap]; exact e1) | simpa using e1, ?_, e2⟩
  have h1 := hp.filterMap fun i => L[i]?
  rwa [List.filterMap_getElem?_range_length] at h1
theorem lay_anew {o : Obj} (ho : s.heap.get? a = some o) (hex : o.ExactSet) (hd : o.data = .set es ep t) (hrows : es.toList = rowsG w L) (hsz : t.place.size = es.size) (hdm : t.dummies = #[]) (hfl : es.size ≤ t.mask)
    (nd : (L.map (·.1)).Nodup) (mem : ∀ p ∈ L, MemOk s.heap p) (ld : w.params.followText "set-order" = true ∨ t.led = true) (few : L.length < 64) {wanted B : Nat}
    (hw : SetTable.sizeAbove wanted - 1 = B) (hB : MaskOk B) (hw2 : SetTable.sizeAbove wanted ≤ 128) (hn : L.length * 5 < B * 3) {Q : Unit → Shared → Prop}
    (hQ : ∀ h' L' es' ep' t', Heap.SameBut a s.heap h' → SetG w h' a L' es' ep' t' → L'.Perm L → Q () { s with heap := h' }) : wpAny (model P w) A (setRelay a wanted) Q E s := by
  have hsl : es.size = L.length := by rw [← Array.length_toList, hrows, rowsG_length]
  have hfits : t.fits es.size = true := by
    unfold SetTable.fits SetTable.fill
    rw [hdm, Bool.and_eq_true, beq_iff_eq, decide_eq_true_eq]
    exact ⟨hsz, by show t.place.size + 0 ≤ t.mask; omega⟩
  obtain ⟨t', order, e, hp, T, em, el, ep', ed⟩ := relaid_ok t (hs := es.map (·.1)) (wanted := wanted) hw hB (by rw [Array.size_map, hsl]; omega)
  rw [Array.size_map, hsl] at hp
  obtain ⟨L2, r1, r2, r3⟩ := picked L es order hrows hp
  rw [← r3] at T
  have hs2 : (order.filterMap (es[·]?)).size = es.size := by rw [← Array.length_toList, r1, rowsG_length, r2.length_eq, hsl]
  rw [setRelay_eq]
  refine wpAny_bind (wpAny_setState_of ho hd hfits ?_)
  dsimp only
  refine wp_if_neg (by rw [sizeLine_eq]; omega) ?_
  try refine wpAny_bind (wpAny_pure ?_)
  rw [e]
  dsimp only
  refine wpAny_bind (wp_if_neg (by rw [hs2]; simp) ?_)
  try refine wpAny_bind (wpAny_pure ?_)
  refine wpAny_pure ?_
  dsimp only
  refine wpAny_storeSet_of ho hd ?_ (by rw [hs2, hsl, sizeLine_eq]; omega)
  have sb : Heap.SameBut a s.heap (s.heap.update a (Obj.putSet (order.filterMap (es[·]?)) t')) := Heap.SameBut.update ..
  exact hQ _ L2 (order.filterMap (es[·]?)) (ep + 1) t' sb ⟨⟨_, store_at ho hd, ⟨hex.1, hex.2.1, hex.2.2⟩, rfl⟩, r1, T, (r2.map (·.1)).nodup_iff.mpr nd, fun p hpm => (mem p (r2.mem_iff.mp hpm)).same ho hd sb, by rw [el]; exact ld,
    by rw [r2.length_eq, em]; exact hn, by rw [r2.length_eq]; exact few⟩ r2
theorem put_in (R : SetG w s.heap a L es ep t) {x : Addr} {k : NestedKey} (hx : MemOk s.heap (k, x)) (hu : A.units + 64 < cLine) (hfew : L.length + 1 < 64) {Q : Bool → Shared → Prop}
    (hQ : ∀ b h' L' es' ep' t', Heap.SameBut a s.heap h' → SetG w h' a L' es' ep' t' → (k ∈ L.map (·.1) → L' = L) → (k ∉ L.map (·.1) → L'.Perm ((k, x) :: L)) → Q b { s with heap := h' }) :
    wpAny (model P w) A (setAddHashed a (.ref x) (k.hash w)) Q E s := by
  obtain ⟨o, ho, hex, hd⟩ := R.ob
  have hsl := R.size
  have hroom := R.room
  unfold setAddHashed
  refine wpAny_holding ?_
  rw [show (100000 : Nat) = 99999 + 1 from rfl, setAddHashedIn_succ]
  refine wpAny_bind (wpAny_setState_of ho hd R.fits ?_)
  dsimp only
  refine wp_if_neg (by simp [byScan, Value.scannable]) ?_
  try refine wpAny_bind (wpAny_pure ?_)
  refine wpAny_bind (find_at R hx hu (fun hm => ?_) fun K hm hK hb => ?_)
  · exact wpAny_pure (hQ false s.heap L es ep t (Heap.SameBut.refl a s.heap) R (fun _ => rfl) fun z => absurd hm z)
  · dsimp only
    refine wpAny_bind (wpAny_setState_of ho hd R.fits ?_)
    dsimp only
    obtain ⟨q1, q2, q3, q4, q5, q6, q7, q8, q9⟩ := R.tab.put hK hb
    generalize hpt : t.put (way t.mask (k.hash w) K) = pt at q1 q3 q4 q5 q6 q7 q8 q9 ⊢
    obtain ⟨t1, p⟩ := pt
    dsimp only at q1 q3 q4 q5 q6 q7 q8 q9 ⊢
    subst q1
    -- whichever way the hash goes, the table is the same but for its mark
    have go : ∀ t2 : SetTable, t2.place = t1.place → t2.dummies = t1.dummies → t2.mask = t1.mask → t2.led = t1.led → wpAny (model P w) A (do
        storeSet a (SetTable.insertAt es (SetTable.below t.place (way t.mask (k.hash w) K)) (k.hash w, Value.ref x)) t2
        if (!false && t2.tooFull) = true then do
          setRelay a (SetTable.grown (es.size + 1))
          pure true
        else pure true) Q E s := by
      intro t2 u1 u2 u3 u4
      have hin : (SetTable.insertAt es (SetTable.below t.place (way t.mask (k.hash w) K)) (k.hash w, Value.ref x)).toList = rowsG w (L.take (SetTable.below t.place (way t.mask (k.hash w) K)) ++ (k, x) :: L.drop (SetTable.below t.place (way t.mask (k.hash w) K))) := by
        rw [SetTable.toList_insertAt, R.rows, rowsG, rowsG, List.map_append, List.map_cons, List.map_take, List.map_drop]
      generalize hpp : SetTable.below t.place (way t.mask (k.hash w) K) = p at q2 q3 hin ⊢
      have pm := put_perm L p (k, x)
      have hlen : (L.take p ++ (k, x) :: L.drop p).length = L.length + 1 := pm.length_eq
      have hhs : (L.take p ++ (k, x) :: L.drop p).map (fun p => p.1.hash w) = (L.map fun p => p.1.hash w).take p ++ k.hash w :: (L.map fun p => p.1.hash w).drop p := by
        rw [List.map_append, List.map_cons, List.map_take, List.map_drop]
      rw [← hhs] at q3
      have nd1 : ((L.take p ++ (k, x) :: L.drop p).map (·.1)).Nodup := (pm.map (·.1)).nodup_iff.mpr (by rw [List.map_cons]; exact List.nodup_cons.mpr ⟨hm, R.nd⟩)
      have hes : (SetTable.insertAt es p (k.hash w, Value.ref x)).size = L.length + 1 := by rw [← Array.length_toList, hin, rowsG_length, hlen]
      generalize SetTable.insertAt es p (k.hash w, Value.ref x) = es1 at hin hes ⊢
      generalize L.take p ++ (k, x) :: L.drop p = L1 at pm hlen q3 nd1 hin
      have q3' : TabOk t2 (L1.map fun p => p.1.hash w) := ⟨by rw [u1]; exact q3.ris, by rw [u2]; exact q3.dm, by rw [u1]; exact q3.sz, by rw [u3]; exact q3.mok, by rw [u1, u3]; exact q3.bd, by rw [u1, u3]; exact q3.reach⟩
      refine wpAny_bind (wpAny_storeSet_of ho hd ?_ (by rw [hes, sizeLine_eq]; omega))
      have sb : Heap.SameBut a s.heap (s.heap.update a (Obj.putSet es1 t2)) := Heap.SameBut.update ..
      have ho1 := store_at (es' := es1) (t' := t2) ho hd
      generalize s.heap.update a (Obj.putSet es1 t2) = h1 at sb ho1 ⊢
      have mem1 : ∀ p ∈ L1, MemOk h1 p := fun p hp => by
        rcases List.mem_cons.mp (pm.mem_iff.mp hp) with e | hp
        · rw [e]; exact hx.same ho hd sb
        · exact (R.mem p hp).same ho hd sb
      have ld1 : w.params.followText "set-order" = true ∨ t2.led = true := by rw [u4, q5]; exact R.led
      have hfull : t2.tooFull = decide ((L.length + 1) * 5 ≥ t.mask * 3) := by
        unfold SetTable.tooFull SetTable.fill
        have e : t1.fill = L.length + 1 := by rw [q9, List.length_map]
        rw [u1, u2, u3, q4, ← e]; rfl
      by_cases hf : t2.tooFull = true
      · refine wp_if_pos (by simp [hf]) (wpAny_bind ?_)
        rw [hfull, decide_eq_true_eq] at hf
        rw [hsl]
        have hsz1 : t2.place.size = es1.size := by
          have h := q3'.sz
          rw [List.length_map, hlen] at h
          rw [h, hes]
        have cases2 : (t.mask = 7 ∧ L.length = 4) ∨ (t.mask = 31 ∧ L.length = 18) := by
          rcases R.tab.mok with e | e | e <;> rw [e] at hroom hf
          · left; exact ⟨e, by omega⟩
          · right; exact ⟨e, by omega⟩
          · omega
        have anew : ∀ B, SetTable.sizeAbove (SetTable.grown (L.length + 1)) - 1 = B → MaskOk B → SetTable.sizeAbove (SetTable.grown (L.length + 1)) ≤ 128 → (L.length + 1) * 5 < B * 3 →
            wpAny (model P w) A (setRelay a (SetTable.grown (L.length + 1))) (fun _ s' => wpAny (model P w) A (pure true) Q E s') E { s with heap := h1 } := fun B g1 g2 g3 g4 =>
          lay_anew (s := { s with heap := h1 }) ho1 ⟨hex.1, hex.2.1, hex.2.2⟩ rfl hin hsz1 q3'.dm (by rw [hes, u3, q4]; rcases cases2 with ⟨e, e2⟩ | ⟨e, e2⟩ <;> omega) nd1 mem1 ld1 (by rw [hlen]; exact hfew) g1 g2 g3 (by rw [hlen]; exact g4)
            fun h2 L2 es2 ep2 t2 sb2 R2 pm2 => wpAny_pure (hQ true h2 L2 es2 ep2 t2 (sb.trans sb2) R2 (fun z => absurd z hm) fun _ => pm2.trans pm)
        rcases cases2 with ⟨_, e2⟩ | ⟨_, e2⟩
        · exact anew 31 (by rw [e2, size_20]) (.inr (.inl rfl)) (by rw [e2, size_20]; decide) (by omega)
        · exact anew 127 (by rw [e2, size_76]) (.inr (.inr rfl)) (by rw [e2, size_76]; decide) (by omega)
      · refine wp_if_neg (by simp [hf]) (wpAny_pure (hQ true h1 L1 es1 (ep + 1) t2 sb ⟨⟨_, ho1, ⟨hex.1, hex.2.1, hex.2.2⟩, rfl⟩, hin, q3', nd1, mem1, ld1, ?_, by rw [hlen]; exact hfew⟩ (fun z => absurd z hm) fun _ => pm))
        rw [hfull, decide_eq_true_eq] at hf
        rw [hlen, u3, q4]
        omega
    by_cases hp : t1.plain = true
    · refine wp_if_pos hp ?_
      refine wpAny_bind (hb_key 8 k _ s _ hx.1 fun r => ?_)
      cases r with
      | true => exact go t1 rfl rfl rfl rfl
      | false => exact go { t1 with plain := false } rfl rfl rfl rfl
    · refine wp_if_neg hp ?_
      try refine wpAny_bind (wpAny_pure ?_)
      exact go t1 rfl rfl rfl rfl
end
end Mini

set_option Elab.async false
set_option linter.all false
set_option maxRecDepth 100000
set_option maxHeartbeats 4000000
namespace Mini
open PySem PySem.Spec PyProof.Rows L2
section
variable {P : Program} {w : World} {A : Around} {E : Value → Shared → Prop} {s : Shared} {a : Addr}
/-- a set's object, its members, its table -/
structure RawS (w : World) (h : Heap) (a : Addr) (es : Array (Int × Value)) (ep : Nat) (t : SetTable) : Prop where
  ob : ∃ o, h.get? a = some o ∧ o.ExactSet ∧ o.data = .set es ep t
  fits : t.fits es.size = true
  ris : Ris t.place.toList
  led : w.params.followText "set-order" = true ∨ t.led = true
theorem raw_tail {g : Bool → Sem Unit} (hg : ∀ (b : Bool) (s₁ : Shared) (Q' : Unit → Shared → Prop), Q' () s₁ → wpAny (model P w) A (g b) Q' E s₁) {o : Obj} {es : Array (Int × Value)} {ep : Nat} {t : SetTable}
    (ho : s.heap.get? a = some o) (hex : o.ExactSet) (hd : o.data = .set es ep t) {es1 : Array (Int × Value)} {t2 : SetTable} (hb : es1.size < scanBound) (hf : t2.fits es1.size = true) (hr : Ris t2.place.toList)
    (hl : w.params.followText "set-order" = true ∨ t2.led = true) {dm : Bool} {R : Option Bool → Shared → Prop}
    (hR : ∀ h' es' ep' t', Heap.SameBut a s.heap h' → RawS w h' a es' ep' t' → es'.toList.Perm es1.toList → R (some true) { s with heap := h' }) :
    wpAny (model P w) A (do
        storeSet a es1 t2
        if (!dm && t2.tooFull) = true then do
            g (relayAll t2 es1 (SetTable.grown es1.size)).2.2
            storeSet a (relayAll t2 es1 (SetTable.grown es1.size)).1 (relayAll t2 es1 (SetTable.grown es1.size)).2.1
            pure (some true)
          else pure (some true)) R E s := by
  refine wpAny_bind (wpAny_storeSet_of ho hd ?_ (fits_of_scanBound hb))
  have o1 := store_at (es' := es1) (t' := t2) ho hd
  have b1 := Heap.SameBut.update s.heap a (Obj.putSet es1 t2)
  by_cases c : (!dm && t2.tooFull) = true
  · refine wp_if_pos c ?_
    have pm := relayAll_perm t2 es1 (SetTable.grown es1.size)
    have f3 := relayAll_fits t2 es1 (SetTable.grown es1.size)
    have r3 := relayAll_ris t2 es1 (SetTable.grown es1.size)
    have l3 := relayAll_led t2 es1 (SetTable.grown es1.size)
    revert pm f3 r3 l3
    cases relayAll t2 es1 (SetTable.grown es1.size) with
    | mk es2 z =>
      obtain ⟨t3, gave⟩ := z
      intro pm f3 r3 l3
      have hsz : es2.size = es1.size := by rw [← Array.length_toList, ← Array.length_toList]; exact pm.length_eq
      refine wpAny_bind (hg _ _ _ (wpAny_bind (wpAny_storeSet_of o1 rfl ?_ (fits_of_scanBound (by rw [hsz]; exact hb)))))
      exact wpAny_pure (hR _ es2 _ t3 (b1.trans (Heap.SameBut.update _ a _)) ⟨⟨_, store_at (es' := es2) (t' := t3) o1 rfl, hex, rfl⟩, f3, r3, hl.imp id fun z => l3.trans z⟩ pm)
  · exact wp_if_neg c (wpAny_pure (hR _ es1 _ t2 b1 ⟨⟨_, o1, hex, rfl⟩, hf, hr, hl⟩ (List.Perm.refl _)))
/-- a flat thing is put into a set of flat things -/
theorem flat_put {es : Array (Int × Value)} {ep : Nat} {t : SetTable} {k : Leaf} {x : Value} {Q : Bool → Shared → Prop} (R : RawS w s.heap a es ep t) (hel : ElemsOf (flatKind P w) es.toList) (hk : (flatKind P w).is k x = true) (hsc : x.scannable = true) (hb : es.size + 1 < scanBound)
    (hin : (∃ e ∈ es.toList, (flatKind P w).is k e.2 = true) → Q false s)
    (hout : (¬ ∃ e ∈ es.toList, (flatKind P w).is k e.2 = true) → ∀ h' es' ep' t', Heap.SameBut a s.heap h' → RawS w h' a es' ep' t' → es'.toList.Perm (es.toList ++ [((flatKind P w).hash k, x)]) → Q true { s with heap := h' }) :
    wpAny (model P w) A (setAddHashed a x ((flatKind P w).hash k)) Q E s := by
  obtain ⟨o, ho, hex, hd⟩ := R.ob
  unfold setAddHashed
  refine wpAny_holding ?_
  rw [show (100000 : Nat) = 99999 + 1 from rfl, setAddHashedIn_succ]
  refine wpAny_bind (wpAny_setState_of ho hd R.fits ?_)
  dsimp only
  refine wp_if_pos (byScan_of hsc (by omega) hel) ?_
  unfold setAddByScan
  refine wpAny_bind (wpAny_bind (wpAny_rule (wpAny_bind (wpAny_setScan_of hk ho hd R.fits hel ?_))))
  cases hr : List.findIdx? (fun e => (flatKind P w).is k e.2) es.toList with
  | some j =>
    obtain ⟨hj, hp, _⟩ := List.findIdx?_eq_some_iff_getElem.mp hr
    exact wpAny_pure (wpAny_pure (hin ⟨_, List.getElem_mem hj, hp⟩))
  | none =>
    have hno : ¬ ∃ e ∈ es.toList, (flatKind P w).is k e.2 = true := fun ⟨e, he, hp⟩ => by
      have z := List.findIdx?_eq_none_iff.mp hr e he
      rw [hp] at z
      cases z
    have pm := layNew_perm t es ((flatKind P w).hash k) x
    have f1 := layNew_fits t es ((flatKind P w).hash k) x
    have r1 := layNew_ris t es ((flatKind P w).hash k) x R.ris
    have l1 := layNew_led t es ((flatKind P w).hash k) x
    dsimp only
    revert pm f1 r1 l1
    cases layNew t es ((flatKind P w).hash k) x with
    | mk es1 z =>
      obtain ⟨t1, dm, gave⟩ := z
      intro pm f1 r1 l1
      dsimp only at pm f1 r1 l1 ⊢
      rw [Array.toList_push] at pm
      have hsz : es1.size = es.size + 1 := by
        have := pm.length_eq
        rw [List.length_append, Array.length_toList, Array.length_toList] at this
        exact this
      have fin : ∀ h' es' ep' t', Heap.SameBut a s.heap h' → RawS w h' a es' ep' t' → es'.toList.Perm es1.toList → Q true { s with heap := h' } := fun h' es' ep' t' sb R' p => hout hno h' es' ep' t' sb R' (p.trans pm)
      refine wpAny_bind ?_
      have rest : ∀ v : Bool, wpAny (model P w) A (do
          storeSet a es1 (if v = true then t1 else { t1 with plain := false })
          if (!dm && (if v = true then t1 else { t1 with plain := false }).tooFull) = true then do
              (match (relayAll (if v = true then t1 else { t1 with plain := false }) es1 (SetTable.grown es1.size)).2.2 with | true => rule "set.scan.the-table-gave-way" | false => pure ())
              storeSet a (relayAll (if v = true then t1 else { t1 with plain := false }) es1 (SetTable.grown es1.size)).1 (relayAll (if v = true then t1 else { t1 with plain := false }) es1 (SetTable.grown es1.size)).2.1
              pure (some true)
            else pure (some true)) (fun r s' => wpAny (model P w) A (match r with | some added => pure added | none => setAddHashedIn a x ((flatKind P w).hash k) 99999) Q E s') E s := by
        intro v
        refine raw_tail (g := fun b => match b with | true => rule "set.scan.the-table-gave-way" | false => pure ()) (fun b s₁ Q' hq => ?_) ho hex hd (by omega) ?_ ?_ ?_ fun h' es' ep' t' sb R' p => wpAny_pure (fin h' es' ep' t' sb R' p)
        · cases b
          · exact wpAny_pure hq
          · exact wpAny_rule hq
        · cases v
          · exact SetTable.fits_plain_off f1
          · exact f1
        · cases v <;> exact r1
        · exact R.led.imp id fun z => by cases v <;> exact l1.trans z
      have both : wpAny (model P w) A (if t1.plain = true then (hashByValue 8 x >>= fun v => do
          storeSet a es1 (if v = true then t1 else { t1 with plain := false })
          if (!dm && (if v = true then t1 else { t1 with plain := false }).tooFull) = true then do
              (match (relayAll (if v = true then t1 else { t1 with plain := false }) es1 (SetTable.grown es1.size)).2.2 with | true => rule "set.scan.the-table-gave-way" | false => pure ())
              storeSet a (relayAll (if v = true then t1 else { t1 with plain := false }) es1 (SetTable.grown es1.size)).1 (relayAll (if v = true then t1 else { t1 with plain := false }) es1 (SetTable.grown es1.size)).2.1
              pure (some true)
            else pure (some true)) else (pure true >>= fun v => do
          storeSet a es1 (if v = true then t1 else { t1 with plain := false })
          if (!dm && (if v = true then t1 else { t1 with plain := false }).tooFull) = true then do
              (match (relayAll (if v = true then t1 else { t1 with plain := false }) es1 (SetTable.grown es1.size)).2.2 with | true => rule "set.scan.the-table-gave-way" | false => pure ())
              storeSet a (relayAll (if v = true then t1 else { t1 with plain := false }) es1 (SetTable.grown es1.size)).1 (relayAll (if v = true then t1 else { t1 with plain := false }) es1 (SetTable.grown es1.size)).2.1
              pure (some true)
            else pure (some true))) (fun r s' => wpAny (model P w) A (match r with | some added => pure added | none => setAddHashedIn a x ((flatKind P w).hash k) 99999) Q E s') E s := by
        by_cases c : t1.plain = true
        · refine wp_if_pos c (wpAny_bind ?_)
          rw [hashByValue_scannable 8 hsc]
          exact wpAny_pure (rest _)
        · exact wp_if_neg c (wpAny_bind (wpAny_pure (rest true)))
      cases gave with
      | true => exact wpAny_rule both
      | false => exact wpAny_pure both
end
end Mini

set_option Elab.async false
set_option linter.all false
set_option maxRecDepth 100000
set_option maxHeartbeats 2000000
namespace Mini
open PySem PySem.Spec PyProof.Rows L2
section
variable {X : Cx} {Γ : Env} {xcl : Str → Option Addr} {fx : Fx} {W : WX} {N : List Str} {sc : Scope} {st : Str → Bool} {k : Nat} {pos : Pos} {m : Bool}
/-! ### membership -/
theorem plainAll_of : ∀ {ys : List PyData}, ys.all plainD = true → PyData.plainAll ys = true
  | [], _ => rfl
  | y :: r, h => by
    rw [List.all_cons, Bool.and_eq_true] at h
    show (y.plain && PyData.plainAll r) = true
    rw [(plainD_of h.1).1, plainAll_of h.2]; rfl
/-- x in y: a list or tuple, a text, a dict -/
def rInM (X : Cx) (neg : Bool) : R2 := fun x y H Q => ∃ b, Q (.bl (if neg then !b else b)) H ∧ (
  (∃ dx ys, Rp X.w X.K H x dx ∧ (Rp X.w X.K H y (.list ys) ∨ Rp X.w X.K H y (.tuple ys)) ∧ plainD dx = true ∧ ys.all plainD = true ∧ b = ys.any fun y => PyData.eqv y dx) ∨
  (∃ i j, x = .str i ∧ y = .str j ∧ b = inStr i j) ∨
  (∃ a kvs dx Hf, y = .ref a ∧ Ask X H Hf a kvs x dx ∧ b = dHas kvs dx))
theorem op_inM (hu : X.A.units + 64 < cLine) : OpR X (compareOp .In) (rInM X false) := by
  intro pins s σ H x y v u Q I rx ry h
  obtain ⟨b, q, h⟩ := h
  have fin : EP X pins σ Q (.bool b) s := ⟨.bl b, H, I, rfl, q⟩
  rcases h with ⟨dx, ys, h1, h2, p1, p2, rfl⟩ | ⟨i, j, rfl, rfl, rfl⟩ | ⟨a, kvs, dx, Hf, rfl, ak, rfl⟩
  · obtain ⟨as, r1⟩ := Rp.reads I dx x v h1 rx
    obtain ⟨q1, q2⟩ := plainD_of p1
    rcases h2 with h2 | h2
    · obtain ⟨bs, r2⟩ := Rp.reads I _ y u h2 ry
      exact SeqAt.in_list_data r2 r1 (plainAll_of p2) q1 (by omega) fin
    · obtain ⟨bs, r2⟩ := Rp.reads I _ y u h2 ry
      exact SeqAt.in_tuple_data r2 r1 (plainAll_of p2) q1 (by omega) fin
  · exact op_in_str pins s σ H _ _ v u Q I rx ry ⟨i, j, rfl, rfl, q⟩
  · cases (show u = Value.ref a from ry)
    exact ask_in hu I ak rx fun s' I' => ⟨.bl _, H, I', rfl, q⟩
theorem op_notInM (hu : X.A.units + 64 < cLine) : OpR X (compareOp .NotIn) (rInM X true) := by
  intro pins s σ H x y v u Q I rx ry h
  obtain ⟨b, q, h⟩ := h
  have fin : EP X pins σ Q (.bool (!b)) s := ⟨.bl (!b), H, I, rfl, q⟩
  rcases h with ⟨dx, ys, h1, h2, p1, p2, rfl⟩ | ⟨i, j, rfl, rfl, rfl⟩ | ⟨a, kvs, dx, Hf, rfl, ak, rfl⟩
  · obtain ⟨as, r1⟩ := Rp.reads I dx x v h1 rx
    obtain ⟨q1, q2⟩ := plainD_of p1
    rcases h2 with h2 | h2
    · obtain ⟨bs, r2⟩ := Rp.reads I _ y u h2 ry
      exact SeqAt.notIn_list_data r2 r1 (plainAll_of p2) q1 (by omega) fin
    · obtain ⟨bs, r2⟩ := Rp.reads I _ y u h2 ry
      exact SeqAt.notIn_tuple_data r2 r1 (plainAll_of p2) q1 (by omega) fin
  · exact op_notin_str pins s σ H _ _ v u Q I rx ry ⟨i, j, rfl, rfl, q⟩
  · cases (show u = Value.ref a from ry)
    exact ask_notIn hu I ak rx fun s' I' => ⟨.bl _, H, I', rfl, q⟩
theorem DicAt.mono {w : World} {K : PySem.W.Frag} {Hf Hf' H : Hp} {a : Addr} {kvs : List (PyData × PyData)} (e : Same Hf Hf') (h : DicAt w K Hf H a kvs) : DicAt w K Hf' H a kvs := by
  obtain ⟨o, es, ep, kw, vw, h1, h2, h3, h4, h5, h6, h7, h8, h9, h10⟩ := h
  exact ⟨o, es, ep, kw, vw, h1, h2, h3, h4, h5, h6, RpAll.mono e _ _ h7, RpAll.mono e _ _ h8, h9, h10⟩
theorem in_read {neg : Bool} {c : Cfg} (hw : c.w = X.w) (hK : c.K = X.K) {σ : L2.St} {p : Pt} {H : Hp} {Q : VK} {x y : Val} {v u : V} {dx : PyData} {b : Bool} (s : c.sim p H σ) (rx : c.rv p H v x) (ry : c.rv p H u y) (ex : x.dat = some dx) (h : inD dx y = some b)
    (q : Q (.bl (if neg then !b else b)) H) : rInM X neg v u H Q := by
  have rdx := rx.rp s.sub ex
  refine ⟨b, q, ?_⟩
  obtain ⟨w, K, Γ, xcl, fx⟩ := c
  cases hw
  cases hK
  have rdy : ∀ {z : PyData}, y.dat = some z → Rp X.w X.K H u z := fun e => ry.rp s.sub e
  unfold inD at h
  split at h
  · split at h
    · rename_i hp; cases h; rw [Bool.and_eq_true] at hp; exact .inl ⟨_, _, rdx, .inl (rdy rfl), hp.1, hp.2, rfl⟩
    · cases h
  · split at h
    · rename_i hp; cases h; rw [Bool.and_eq_true] at hp; exact .inl ⟨_, _, rdx, .inr (rdy rfl), hp.1, hp.2, rfl⟩
    · cases h
  · split at h
    · rename_i hp; cases h; rw [Bool.and_eq_true] at hp; exact .inl ⟨_, _, rdx, .inl (rdy rfl), hp.1, hp.2, rfl⟩
    · cases h
  · cases h
    cases rdx
    cases rdy rfl
    exact .inr (.inl ⟨_, _, rfl, rfl, rfl⟩)
  · split at h
    · rename_i hp
      cases h
      obtain ⟨a, rfl, da⟩ := ry.dict s.sub rfl
      exact .inr (.inr ⟨a, _, _, p.Hf, rfl, ⟨s.sub, da, rdx, hp⟩, rfl⟩)
    · cases h
  · split at h
    · rename_i hp
      cases h
      obtain ⟨a, rfl, da⟩ := ry.dict s.sub rfl
      exact .inr (.inr ⟨a, _, _, p.Hf, rfl, ⟨s.sub, da, rdx, hp⟩, rfl⟩)
    · cases h
  · cases h
/-- any comparison -/
def rCmp (X : Cx) (op : COp) : R2 := match op with
  | .isIn => rInM X false
  | .notIn => rInM X true
  | op => rCmpM X.w X.K op
theorem op_any {op : COp} (hu : X.A.units + 64 < cLine) : OpR X (compareOp (cop op)) (rCmp X op) := by
  cases op with
  | isIn => exact op_inM hu
  | notIn => exact op_notInM hu
  | eq => exact op_cmpM (op := .eq) hu
  | ne => exact op_cmpM (op := .ne) hu
  | lt => exact op_cmpM (op := .lt) hu
  | le => exact op_cmpM (op := .le) hu
  | gt => exact op_cmpM (op := .gt) hu
  | ge => exact op_cmpM (op := .ge) hu
  | is => exact op_cmpM (op := .is) hu
  | isnot => exact op_cmpM (op := .isnot) hu
theorem cmp_read {op : COp} {σ : L2.St} {p : Pt} {H : Hp} {Q : VK} {x y : Val} {v u : V} {b : Bool} (s : (cfg X Γ xcl fx).sim p H σ) (rx : (cfg X Γ xcl fx).rv p H v x) (ry : (cfg X Γ xcl fx).rv p H u y) (h : cmpV op x y = some b)
    (q : Q (.bl b) H) : rCmp X op v u H Q := by
  have plain : ∀ {op : COp}, (match x.dat, y.dat with | some x, some y => cmpD op x y | _, _ => none) = some b → rCmpM X.w X.K op v u H Q := fun {op} h => by
    cases ex : x.dat with
    | none => rw [ex] at h; cases h
    | some dx =>
      cases ey : y.dat with
      | none => rw [ex, ey] at h; cases h
      | some dy =>
        rw [ex, ey] at h
        exact ⟨dx, dy, b, rx.rp s.sub ex, ry.rp s.sub ey, h, q⟩
  cases op with
  | isIn =>
    cases ex : x.dat with
    | none => have h : (match x.dat with | some x => inD x y | none => none) = some b := h; rw [ex] at h; cases h
    | some dx =>
      have h : (match x.dat with | some x => inD x y | none => none) = some b := h
      rw [ex] at h
      exact in_read (neg := false) rfl rfl s rx ry ex h q
  | notIn =>
    cases ex : x.dat with
    | none => have h : (match x.dat with | some x => (inD x y).map (!·) | none => none) = some b := h; rw [ex] at h; cases h
    | some dx =>
      have h : (match x.dat with | some x => (inD x y).map (!·) | none => none) = some b := h
      rw [ex] at h
      obtain ⟨b', e, rfl⟩ := Option.map_eq_some_iff.mp h
      exact in_read (neg := true) rfl rfl s rx ry ex e q
  | eq => exact plain h
  | ne => exact plain h
  | lt => exact plain h
  | le => exact plain h
  | gt => exact plain h
  | ge => exact plain h
  | is => exact plain h
  | isnot => exact plain h
/-! ### comparisons as expressions and tests -/
theorem marks_of {op : COp} {y : Expr} (h : (match y with | .Set .. => false | _ => true) = true) : behindInMarks (cop op) y = false := by
  cases y <;> first | rfl | cases h
theorem cmp_two {op : COp} {a b : E} {R : Bool → Hp → Prop} {kk : Bool → Sta → Prop} {ke : Err → Sta → Prop} {σ : L2.St} {H : Hp} {p : Pt} (s : (cfg X Γ xcl fx).sim p H σ)
    (h : OutP ((ev Γ a false >>= fun x => ev Γ b false >>= fun y => M.of (cmpV op x y)) p.S) kk ke) (he : ∀ e S, ke e S → EW (cfg X Γ xcl fx) W σ p e S)
    (hk : ∀ b H' p', kk b p'.S → (cfg X Γ xcl fx).sim p' H' σ → Step p H p' H' σ → R b H') : tOp (rCmp X op) (tE (cfg X Γ xcl fx) W a false) (tE (cfg X Γ xcl fx) W b false) σ H fun v H' => ∃ c, v = .bl c ∧ R c H' := by
  refine two s (outP_mono (outP_bind h) (fun _ _ z => outP_bind z) fun _ _ z => z) he fun x y v u H2 p2 q2 s2 st2 rx ry => ?_
  obtain ⟨b, e, q2⟩ := outP_of q2
  exact cmp_read s2 rx ry e ⟨b, rfl, hk b H2 p2 q2 s2 st2⟩
theorem tOp_mono {r : R2} {ta tb : TE} {σ : L2.St} {H : Hp} {Q Q' : VK} (h : tOp r ta tb σ H Q) (hr : ∀ x y H, r x y H Q → r x y H Q') (ha : ∀ Q Q' : VK, (∀ v H, Q v H → Q' v H) → ta σ H Q → ta σ H Q') (hb : ∀ H (Q Q' : VK), (∀ v H, Q v H → Q' v H) → tb σ H Q → tb σ H Q') : tOp r ta tb σ H Q' :=
  ha _ _ (fun x H1 q => hb H1 _ _ (fun y H2 q => hr x y H2 q) q) h
theorem s_cmp {op : COp} {a b : E} {x y : Expr} (hu : X.A.units + 64 < cLine) (hy : behindInMarks (cop op) y = false) (ha : PE X x (tE (cfg X Γ xcl fx) W a false)) (hb : PE X y (tE (cfg X Γ xcl fx) W b false)) :
    PE X (.Compare x [cop op] [y] pos) (tE (cfg X Γ xcl fx) W (.cmp op a b) m) := by
  refine (pe_cmpR (op_any hu) ha hb hy).weak fun σ H Q ⟨p, s, q⟩ => ?_
  have q : OutP ((ev Γ a false >>= fun x => ev Γ b false >>= fun y => M.of (cmpV op x y) >>= fun b => pure (Mini.bl b)) p.S) _ _ := q
  refine two s (outP_mono (outP_bind q) (fun _ _ z => outP_bind z) fun _ _ z => z) (fun _ _ z => z) fun x y v u H2 p2 q2 s2 st2 rx ry => ?_
  obtain ⟨b, e, q2⟩ := outP_of (outP_bind q2)
  have q2 := outP_pure q2
  exact cmp_read s2 rx ry e (q2 (.bl b) H2 p2 rfl s2 st2 (.bl b) fun _ z => nomatch z)
theorem t_cmp {op : COp} {a b : E} {x y : Expr} (hu : X.A.units + 64 < cLine) (hy : behindInMarks (cop op) y = false) (ha : PE X x (tE (cfg X Γ xcl fx) W a false)) (hb : PE X y (tE (cfg X Γ xcl fx) W b false)) :
    PT X (.Compare x [cop op] [y] pos) (tT (cfg X Γ xcl fx) W (.e (.cmp op a b))) := by
  refine (pt_cmpR (op_any hu) ha hb hy).weak fun σ H Q ⟨p, s, q⟩ => ?_
  have q : OutP (((ev Γ a false >>= fun x => ev Γ b false >>= fun y => M.of (cmpV op x y) >>= fun b => pure (Mini.bl b)) >>= boolM) p.S) _ _ := q
  refine two s (outP_mono (outP_bind (outP_bind q)) (fun _ _ z => outP_bind z) fun _ _ z => z) (fun _ _ z => z) fun x y v u H2 p2 q2 s2 st2 rx ry => ?_
  obtain ⟨b, e, q2⟩ := outP_of (outP_bind q2)
  exact cmp_read s2 rx ry e ⟨b, rfl, q2 H2 p2 rfl s2 st2⟩
theorem s_cmp2 {op op' : COp} {a b c : E} {x y z : Expr} (hu : X.A.units + 64 < cLine) (hm : lastMarks [cop op, cop op'] [y, z] = false) (ha : PE X x (tE (cfg X Γ xcl fx) W a false)) (hb : PE X y (tE (cfg X Γ xcl fx) W b false)) (hc : PE X z (tE (cfg X Γ xcl fx) W c false)) :
    PE X (.Compare x [cop op, cop op'] [y, z] pos) (tE (cfg X Γ xcl fx) W (.cmp2 op op' a b c) m) := by
  refine (pe_chain (op_any hu) (op_any hu) ha hb hc hm).weak fun σ H Q ⟨p, s, q⟩ => ?_
  have q : OutP ((ev Γ a false >>= fun x => ev Γ b false >>= fun y => M.of (cmpV op x y) >>= fun t => if t = true then (ev Γ c false >>= fun z => M.of (cmpV op' y z) >>= fun r => pure (Mini.bl r)) else pure (Mini.bl false)) p.S) _ _ := q
  refine two s (outP_mono (outP_bind q) (fun _ _ z => outP_bind z) fun _ _ z => z) (fun _ _ z => z) fun x y v u H2 p2 q2 s2 st2 rx ry => ?_
  obtain ⟨t, e, q2⟩ := outP_of (outP_bind q2)
  refine cmp_read s2 rx ry e ⟨t, rfl, ?_⟩
  cases t with
  | true =>
    refine iteT (tE.intro s2 (outP_bind q2) (fun val v3 H3 p3 q3 s3 st3 rv3 _ => ?_) fun _ _ z => z.step st2)
    obtain ⟨r, e3, q3⟩ := outP_of (outP_bind q3)
    exact cmp_read s3 (ry.step st3) rv3 e3 (outP_pure q3 (.bl r) H3 p3 rfl s3 (st2.trans st3) (.bl r) fun _ z => nomatch z)
  | false => exact iteF (outP_pure q2 (.bl false) H2 p2 rfl s2 st2 (.bl false) fun _ z => nomatch z)
theorem t_cmp2 {op op' : COp} {a b c : E} {x y z : Expr} (hu : X.A.units + 64 < cLine) (hm : lastMarks [cop op, cop op'] [y, z] = false) (ha : PE X x (tE (cfg X Γ xcl fx) W a false)) (hb : PE X y (tE (cfg X Γ xcl fx) W b false)) (hc : PE X z (tE (cfg X Γ xcl fx) W c false)) :
    PT X (.Compare x [cop op, cop op'] [y, z] pos) (tT (cfg X Γ xcl fx) W (.e (.cmp2 op op' a b c))) := by
  refine (pt_chain (op_any hu) (op_any hu) ha hb hc hm).weak fun σ H Q ⟨p, s, q⟩ => ?_
  have q : OutP (((ev Γ a false >>= fun x => ev Γ b false >>= fun y => M.of (cmpV op x y) >>= fun t => if t = true then (ev Γ c false >>= fun z => M.of (cmpV op' y z) >>= fun r => pure (Mini.bl r)) else pure (Mini.bl false)) >>= boolM) p.S) _ _ := q
  refine two s (outP_mono (outP_bind (outP_bind q)) (fun _ _ z => outP_bind z) fun _ _ z => z) (fun _ _ z => z) fun x y v u H2 p2 q2 s2 st2 rx ry => ?_
  obtain ⟨t, e, q2⟩ := outP_of (outP_bind q2)
  refine cmp_read s2 rx ry e ⟨t, rfl, ?_⟩
  cases t with
  | true =>
    refine iteT (tE.intro s2 (outP_bind q2) (fun val v3 H3 p3 q3 s3 st3 rv3 _ => ?_) fun _ _ z => z.step st2)
    obtain ⟨r, e3, q3⟩ := outP_of (outP_bind q3)
    exact cmp_read s3 (ry.step st3) rv3 e3 ⟨r, rfl, q3 H3 p3 rfl s3 (st2.trans st3)⟩
  | false => exact iteF ⟨false, rfl, q2 H2 p2 rfl s2 st2⟩
end
end Mini

set_option Elab.async false
set_option linter.all false
set_option maxRecDepth 100000
set_option maxHeartbeats 2000000
namespace Mini
open PySem PySem.Spec PyProof.Rows L2
section
variable {X : Cx} {Γ : Env} {xcl : Str → Option Addr} {fx : Fx} {W : WX} {N : List Str} {sc : Scope} {st : Str → Bool} {k : Nat} {pos : Pos} {m : Bool}
/-! ### tests -/
theorem bool_of {val : Val} {v : V} {H : Hp} {p : Pt} {kk : Bool → Sta → Prop} {ke : Err → Sta → Prop} (rv : (cfg X Γ xcl fx).rv p H v val) (q : OutP (boolM val p.S) kk ke) : ∃ b, val = .d (.bool b) ∧ v = .bl b ∧ kk b p.S := by
  match val, rv, q with
  | .d (.bool b), rv, q =>
    have rv : Rp _ _ _ v (.bool b) := rv
    cases rv
    exact ⟨b, rfl, rfl, q⟩
  | .d .none, _, q => exact q.elim
  | .d (.int _), _, q => exact q.elim
  | .d (.str _), _, q => exact q.elim
  | .d (.list _), _, q => exact q.elim
  | .d (.tuple _), _, q => exact q.elim
  | .d (.dict _), _, q => exact q.elim
  | .ol _, _, q => exact q.elim
  | .od _, _, q => exact q.elim
  | .os _, _, q => exact q.elim
  | .drw, _, q => exact q.elim
  | .scr _, _, q => exact q.elim
  | .er _ _, _, q => exact q.elim
theorem int_of {α : Type} {f : Int → M α} {val : Val} {v : V} {H : Hp} {p : Pt} {kk : α → Sta → Prop} {ke : Err → Sta → Prop} (rv : (cfg X Γ xcl fx).rv p H v val) (q : OutP ((match val with | .d (.int i) => f i | _ => M.no) p.S) kk ke) : ∃ i, val = .d (.int i) ∧ v = .int i ∧ OutP (f i p.S) kk ke := by
  match val, rv, q with
  | .d (.int b), rv, q =>
    have rv : Rp _ _ _ v (.int b) := rv
    cases rv
    exact ⟨b, rfl, rfl, q⟩
  | .d .none, _, q => exact q.elim
  | .d (.bool _), _, q => exact q.elim
  | .d (.str _), _, q => exact q.elim
  | .d (.list _), _, q => exact q.elim
  | .d (.tuple _), _, q => exact q.elim
  | .d (.dict _), _, q => exact q.elim
  | .ol _, _, q => exact q.elim
  | .od _, _, q => exact q.elim
  | .os _, _, q => exact q.elim
  | .drw, _, q => exact q.elim
  | .scr _, _, q => exact q.elim
  | .er _ _, _, q => exact q.elim
theorem t_val {a : E} {x : Expr} (ha : PE X x (tE (cfg X Γ xcl fx) W a false)) (he : ∀ whole, isTrue x X.env whole = (do let v ← whole; standAt x.pos; holding [v] (truthy v))) : PT X x (tT (cfg X Γ xcl fx) W (.e a)) := by
  refine (pt_val ha he).weak fun σ H Q ⟨p, s, q⟩ => ?_
  have q : OutP ((ev Γ a false >>= boolM) p.S) _ _ := q
  refine tE.intro s (outP_bind q) (fun val v H1 p1 q1 s1 st1 rv _ => ?_) fun _ _ z => z
  obtain ⟨b, rfl, rfl, q1⟩ := bool_of rv q1
  exact ⟨b, rfl, q1 H1 p1 rfl s1 st1⟩
theorem t_not {t : Tst} {x : Expr} (h : PT X x (tT (cfg X Γ xcl fx) W t)) : PT X (.UnaryOp .Not x pos) (tT (cfg X Γ xcl fx) W (.not t)) := by
  refine (pt_not h).weak fun σ H Q ⟨p, s, q⟩ => ?_
  have q : OutP ((evt Γ t >>= fun b => pure (!b)) p.S) _ _ := q
  refine tT.intro s (outP_bind q) (fun b H1 p1 q1 s1 st1 => ?_) fun _ _ z => z
  exact outP_pure q1 H1 p1 rfl s1 st1
theorem t_and1 {t : Tst} {x : Expr} (h : PT X x (tT (cfg X Γ xcl fx) W t)) : PW X (.BoolOp .And [x] pos) (tT (cfg X Γ xcl fx) W (.and (.cons t .nil))) := by
  refine (pw_and1 h).weak fun σ H Q ⟨p, s, q⟩ => ?_
  have q : OutP ((evt Γ t >>= fun b => if b = true then pure true else pure false) p.S) _ _ := q
  refine tT.intro s (outP_bind q) (fun b H1 p1 q1 s1 st1 => ?_) fun _ _ z => z
  cases b <;> exact outP_pure q1 H1 p1 rfl s1 st1
theorem t_and {t : Tst} {r : Tsts} {x y : Expr} {ys : List Expr} (h : PT X x (tT (cfg X Γ xcl fx) W t)) (h2 : PW X (.BoolOp .And (y :: ys) pos) (tT (cfg X Γ xcl fx) W (.and r))) : PW X (.BoolOp .And (x :: y :: ys) pos) (tT (cfg X Γ xcl fx) W (.and (.cons t r))) := by
  refine (pw_and h h2).weak fun σ H Q ⟨p, s, q⟩ => ?_
  have q : OutP ((evt Γ t >>= fun b => if b = true then evts Γ r else pure false) p.S) _ _ := q
  refine tT.intro s (outP_bind q) (fun b H1 p1 q1 s1 st1 => ?_) fun _ _ z => z
  cases b with
  | true => exact iteT ⟨p1, s1, outP_mono (show OutP (evt Γ (.and r) p1.S) _ _ from q1) (fun b S' z H' p' e s' st' => z H' p' e s' (st1.trans st')) fun _ _ z => z.step st1⟩
  | false => exact iteF (outP_pure q1 H1 p1 rfl s1 st1)
theorem t_or1 {t : Tst} {x : Expr} (h : PT X x (tT (cfg X Γ xcl fx) W t)) : PW X (.BoolOp .Or [x] pos) (tT (cfg X Γ xcl fx) W (.or (.cons t .nil))) := by
  refine (pw_or1 h).weak fun σ H Q ⟨p, s, q⟩ => ?_
  have q : OutP ((evt Γ t >>= fun b => if b = true then pure true else pure false) p.S) _ _ := q
  refine tT.intro s (outP_bind q) (fun b H1 p1 q1 s1 st1 => ?_) fun _ _ z => z
  cases b <;> exact outP_pure q1 H1 p1 rfl s1 st1
theorem t_or {t : Tst} {r : Tsts} {x y : Expr} {ys : List Expr} (h : PT X x (tT (cfg X Γ xcl fx) W t)) (h2 : PW X (.BoolOp .Or (y :: ys) pos) (tT (cfg X Γ xcl fx) W (.or r))) : PW X (.BoolOp .Or (x :: y :: ys) pos) (tT (cfg X Γ xcl fx) W (.or (.cons t r))) := by
  refine (pw_or h h2).weak fun σ H Q ⟨p, s, q⟩ => ?_
  have q : OutP ((evt Γ t >>= fun b => if b = true then pure true else evto Γ r) p.S) _ _ := q
  refine tT.intro s (outP_bind q) (fun b H1 p1 q1 s1 st1 => ?_) fun _ _ z => z
  cases b with
  | false => exact iteF ⟨p1, s1, outP_mono (show OutP (evt Γ (.or r) p1.S) _ _ from q1) (fun b S' z H' p' e s' st' => z H' p' e s' (st1.trans st')) fun _ _ z => z.step st1⟩
  | true => exact iteT (outP_pure q1 H1 p1 rfl s1 st1)
/-! ### signs, not, and, or as values -/
theorem s_neg {a : E} {x : Expr} (ha : PE X x (tE (cfg X Γ xcl fx) W a false)) : PE X (.UnaryOp .USub x pos) (tE (cfg X Γ xcl fx) W (.neg a) m) := by
  refine (pe_un un_neg ha).weak fun σ H Q ⟨p, s, q⟩ => ?_
  have q : OutP ((ev Γ a false >>= fun x => match x with | .d (.int i) => pure (Mini.int (-i)) | _ => M.no) p.S) _ _ := q
  refine tE.intro s (outP_bind q) (fun val v H1 p1 q1 s1 st1 rv _ => ?_) fun _ _ z => z
  obtain ⟨i, rfl, rfl, q1⟩ := int_of rv q1
  exact ⟨i, rfl, outP_pure q1 (V.int (-i)) H1 p1 rfl s1 st1 (Rp.int (-i)) fun _ z => nomatch z⟩
theorem s_not {a : E} {x : Expr} (ha : PE X x (tE (cfg X Γ xcl fx) W a false)) : PE X (.UnaryOp .Not x pos) (tE (cfg X Γ xcl fx) W (.not a) m) := by
  refine (pe_not ha).weak fun σ H Q ⟨p, s, q⟩ => ?_
  have q : OutP ((ev Γ a false >>= fun x => boolM x >>= fun b => pure (Mini.bl (!b))) p.S) _ _ := q
  refine tE.intro s (outP_bind q) (fun val v H1 p1 q1 s1 st1 rv _ => ?_) fun _ _ z => z
  obtain ⟨b, rfl, rfl, q1⟩ := bool_of rv (outP_bind q1)
  exact ⟨b, rfl, outP_pure q1 (.bl (!b)) H1 p1 rfl s1 st1 (.bl (!b)) fun _ z => nomatch z⟩
theorem s_and1 {a : E} {x : Expr} (ha : PE X x (tE (cfg X Γ xcl fx) W a false)) : PE X (.BoolOp .And [x] pos) (tE (cfg X Γ xcl fx) W (.andV (.cons a .nil)) m) := by
  refine (pe_one ha).weak fun σ H Q ⟨p, s, q⟩ => ?_
  have q : OutP ((ev Γ a false >>= fun x => boolM x >>= fun b => pure (Mini.bl b)) p.S) _ _ := q
  refine tE.intro s (outP_bind q) (fun val v H1 p1 q1 s1 st1 rv _ => ?_) fun _ _ z => z
  obtain ⟨b, rfl, rfl, q1⟩ := bool_of rv (outP_bind q1)
  exact outP_pure q1 (.bl b) H1 p1 rfl s1 st1 (.bl b) fun _ z => nomatch z
theorem s_and {a : E} {r : Es} {e' : E} {x y : Expr} {ys : List Expr} (ha : PE X x (tE (cfg X Γ xcl fx) W a false)) (hb : PE X (.BoolOp .And (y :: ys) pos) (tE (cfg X Γ xcl fx) W (.andV (.cons e' r)) m)) :
    PE X (.BoolOp .And (x :: y :: ys) pos) (tE (cfg X Γ xcl fx) W (.andV (.cons a (.cons e' r))) m) := by
  refine (pe_and ha hb).weak fun σ H Q ⟨p, s, q⟩ => ?_
  have q : OutP ((ev Γ a false >>= fun x => boolM x >>= fun b => if b = true then evAnd Γ (.cons e' r) else pure (Mini.bl false)) p.S) _ _ := q
  refine tE.intro s (outP_bind q) (fun val v H1 p1 q1 s1 st1 rv _ => ?_) fun _ _ z => z
  obtain ⟨b, rfl, rfl, q1⟩ := bool_of rv (outP_bind q1)
  refine ⟨b, rfl, ?_⟩
  cases b with
  | true => exact iteT ⟨p1, s1, outP_mono (show OutP (ev Γ (.andV (.cons e' r)) m p1.S) _ _ from q1) (fun val S' z v H' p' e s' st' rv fr => z v H' p' e s' (st1.trans st') rv fun hm ho => let ⟨a, e1, e2, e3⟩ := fr hm ho; ⟨a, e1, st1.none_of e2, e3⟩) fun _ _ z => z.step st1⟩
  | false => exact iteF (outP_pure q1 (.bl false) H1 p1 rfl s1 st1 (.bl false) fun _ z => nomatch z)
theorem s_or1 {a : E} {x : Expr} (ha : PE X x (tE (cfg X Γ xcl fx) W a false)) : PE X (.BoolOp .Or [x] pos) (tE (cfg X Γ xcl fx) W (.orV (.cons a .nil)) m) := by
  refine (pe_one ha).weak fun σ H Q ⟨p, s, q⟩ => ?_
  have q : OutP ((ev Γ a false >>= fun x => boolM x >>= fun b => pure (Mini.bl b)) p.S) _ _ := q
  refine tE.intro s (outP_bind q) (fun val v H1 p1 q1 s1 st1 rv _ => ?_) fun _ _ z => z
  obtain ⟨b, rfl, rfl, q1⟩ := bool_of rv (outP_bind q1)
  exact outP_pure q1 (.bl b) H1 p1 rfl s1 st1 (.bl b) fun _ z => nomatch z
theorem s_or {a : E} {r : Es} {e' : E} {x y : Expr} {ys : List Expr} (ha : PE X x (tE (cfg X Γ xcl fx) W a false)) (hb : PE X (.BoolOp .Or (y :: ys) pos) (tE (cfg X Γ xcl fx) W (.orV (.cons e' r)) m)) :
    PE X (.BoolOp .Or (x :: y :: ys) pos) (tE (cfg X Γ xcl fx) W (.orV (.cons a (.cons e' r))) m) := by
  refine (pe_or ha hb).weak fun σ H Q ⟨p, s, q⟩ => ?_
  have q : OutP ((ev Γ a false >>= fun x => boolM x >>= fun b => if b = true then pure (Mini.bl true) else evOr Γ (.cons e' r)) p.S) _ _ := q
  refine tE.intro s (outP_bind q) (fun val v H1 p1 q1 s1 st1 rv _ => ?_) fun _ _ z => z
  obtain ⟨b, rfl, rfl, q1⟩ := bool_of rv (outP_bind q1)
  refine ⟨b, rfl, ?_⟩
  cases b with
  | false => exact iteF ⟨p1, s1, outP_mono (show OutP (ev Γ (.orV (.cons e' r)) m p1.S) _ _ from q1) (fun val S' z v H' p' e s' st' rv fr => z v H' p' e s' (st1.trans st') rv fun hm ho => let ⟨a, e1, e2, e3⟩ := fr hm ho; ⟨a, e1, st1.none_of e2, e3⟩) fun _ _ z => z.step st1⟩
  | true => exact iteT (outP_pure q1 (.bl true) H1 p1 rfl s1 st1 (.bl true) fun _ z => nomatch z)
/-- a value that is never owned: whether it is kept does not matter -/
theorem up_mode {e : E} {x : Expr} (h : PE X x (tE (cfg X Γ xcl fx) W e false)) (he : ∀ s, ev Γ e true s = ev Γ e false s) (hf : ∀ s v s', ev Γ e true s = .ok v s' → v.owned = false) : PE X x (tE (cfg X Γ xcl fx) W e true) :=
  h.weak fun σ H Q ⟨p, s, q⟩ => ⟨p, s, by
    have q : OutP (ev Γ e true p.S) _ _ := q
    cases er : ev Γ e true p.S with
    | ok val S' =>
      rw [er] at q
      show OutP (ev Γ e false p.S) _ _
      rw [← he, er]
      exact fun v H' p' e1 s' st' rv _ => q v H' p' e1 s' st' rv fun _ z => by rw [hf _ _ _ er] at z; cases z
    | er err S' =>
      rw [er] at q
      show OutP (ev Γ e false p.S) _ _
      rw [← he, er]; exact q
    | no => rw [er] at q; exact q.elim⟩
theorem s_ite {t : Tst} {a b : E} {c x y : Expr} (hc : PT X c (tT (cfg X Γ xcl fx) W t)) (ha : PE X x (tE (cfg X Γ xcl fx) W a m)) (hb : PE X y (tE (cfg X Γ xcl fx) W b m)) : PE X (.IfExp c x y pos) (tE (cfg X Γ xcl fx) W (.ite t a b) m) := by
  refine (pe_ifExp hc ha hb).weak fun σ H Q ⟨p, s, q⟩ => ?_
  have q : OutP ((evt Γ t >>= fun b' => if b' = true then ev Γ a m else ev Γ b m) p.S) _ _ := q
  refine tT.intro s (outP_bind q) (fun b' H1 p1 q1 s1 st1 => ?_) fun _ _ z => z
  have fr : ∀ {val : Val} {v : V} {p' : Pt}, (m = true → Fresh H1 p' v val) → (m = true → Fresh H p' v val) := fun h hm z => let ⟨a, e1, e2, e3⟩ := h hm z; ⟨a, e1, st1.none_of e2, e3⟩
  cases b' with
  | true => exact iteT ⟨p1, s1, outP_mono (show OutP (ev Γ a m p1.S) _ _ from q1) (fun val S' z v H' p' e s' st' rv f => z v H' p' e s' (st1.trans st') rv (fr f)) fun _ _ z => z.step st1⟩
  | false => exact iteF ⟨p1, s1, outP_mono (show OutP (ev Γ b m p1.S) _ _ from q1) (fun val S' z v H' p' e s' st' rv f => z v H' p' e s' (st1.trans st') rv (fr f)) fun _ _ z => z.step st1⟩
/-! ### isinstance -/
def tyS : Ty → String
  | .int => "int"
  | .bool => "bool"
  | .str => "str"
  | .tuple => "tuple"
  | .list => "list"
  | .dict => "dict"
def isTy : Ty → PyData → Bool
  | .int, x => x.isInt
  | .bool, x => x.isBool
  | .str, x => x.isStr
  | .tuple, x => x.isTuple
  | .list, x => x.isList
  | .dict, x => x.isDict
theorem isi_of {t : Ty} {v : Val} {b : Bool} (h : isiV t v = some b) : ∃ x, v.dat = some x ∧ b = isTy t x := by
  unfold isiV at h
  cases e : v.dat with
  | none => rw [e] at h; cases h
  | some x =>
    rw [e] at h
    refine ⟨x, rfl, ?_⟩
    cases t <;> cases x <;> exact (Option.some.inj h).symm
def rIsi (X : Cx) (t : Ty) : List V → Hp → VK → Prop := fun xs H Q => ∃ v x, xs = [v, .ty (tyS t)] ∧ Rp X.w X.K H v x ∧ Q (.bl (isTy t x)) H
theorem call_isi {t : Ty} : CallR X (.builtin "isinstance") (rIsi X t) := by
  intro pins s σ H xs us Q I r h
  obtain ⟨v, x, rfl, rp, q⟩ := h
  obtain ⟨u, c, rfl, ru, rc⟩ := Vals.two r
  obtain ⟨as, rd⟩ := Rp.reads I x v u rp ru
  cases t <;> cases rc
  · exact W.isinstance_int_data rd fun tk _ => ⟨.bl _, H, I.tok _, rfl, q⟩
  · exact W.isinstance_bool_data rd fun tk _ => ⟨.bl _, H, I.tok _, rfl, q⟩
  · exact W.isinstance_str_data rd fun tk _ => ⟨.bl _, H, I.tok _, rfl, q⟩
  · exact W.isinstance_tuple_data rd fun tk _ => ⟨.bl _, H, I.tok _, rfl, q⟩
  · exact W.isinstance_list_data rd fun tk _ => ⟨.bl _, H, I.tok _, rfl, q⟩
  · exact W.isinstance_dict_data rd fun tk _ => ⟨.bl _, H, I.tok _, rfl, q⟩
end
end Mini

set_option Elab.async false
set_option linter.all false
set_option maxRecDepth 100000
set_option maxHeartbeats 2000000
namespace Mini
open PySem PySem.Spec PyProof.Rows L2
section
variable {X : Cx} {Γ : Env} {xcl : Str → Option Addr} {fx : Fx} {W : WX} {N : List Str} {sc : Scope} {st : Str → Bool} {k : Nat} {pos : Pos} {m : Bool}
/-! ### subscripts -/
theorem ixOf_eq (n : Nat) (i : Int) : ixOf n i = ixN n i := by
  unfold ixOf ixN
  by_cases h : 0 ≤ i
  · rw [if_pos h, if_pos h]
  · rw [if_neg h, if_neg h]
    by_cases h2 : -i ≤ n
    · rw [if_pos h2, if_pos (by omega)]
      congr 1
      omega
    · rw [if_neg h2, if_neg (by omega)]
def rIxD (X : Cx) : R2 := fun x y H Q => ∃ a kvs Hf k d, x = .ref a ∧ Ask X H Hf a kvs y k ∧ dGet kvs k = some d ∧ ∀ v, Rp X.w X.K Hf v d → Q v H
theorem ix_dict (hu : X.A.units + 64 < cLine) : IxR X (rIxD X) := by
  intro value slice pins s σ H x y v u Q I rx ry h hs
  obtain ⟨a, kvs, Hf, k, d, rfl, ak, hd, q⟩ := h
  cases (show v = Value.ref a from rx)
  obtain ⟨o, es, ep, kw, vw, h1, h2, h3, h4, h5⟩ := ak.d
  have hg : s.heap.get? a = some o := (I.hok _ _ h1).1
  have ty : s.TypeIs (.ref a) "dict" := ⟨o, hg, h3.1⟩
  exact tail_any ty slot_dict_getitem.lookup (ask_item hu I ak ry hd fun v w' s' I' r1 r2 => ⟨v, H, I', r1, q v r2⟩) hs
def rIxAll (X : Cx) : R2 := fun x y H Q => rIx X.K x y H Q ∨ rIxD X x y H Q
theorem ix_all (hu : X.A.units + 64 < cLine) : IxR X (rIxAll X) := IxR.or ix_seq (ix_dict hu)
theorem plainIx_of {e : Expr} (h : notSlice e = true) : PlainIx e := fun o i => by
  cases e <;> first | rfl | cases h
theorem ix_read {c : Cfg} (hw : c.w = X.w) (hK : c.K = X.K) {σ : L2.St} {p : Pt} {H : Hp} {Q : VK} {x y : Val} {v u : V} {dy d : PyData} (s : c.sim p H σ) (rx : c.rv p H v x) (ry : c.rv p H u y) (ey : y.dat = some dy) (h : ixD x dy = some d)
    (g : Got c σ p H Q (.d d)) : rIxAll X v u H Q := by
  obtain ⟨w, K, Γ, xcl, fx⟩ := c
  cases hw
  cases hK
  unfold ixD at h
  cases ex : x.dat with
  | none => rw [ex] at h; cases h
  | some dx =>
    rw [ex] at h
    have seq : ∀ {ds : List PyData} {vs : List V} {i : Int}, RpAll X.w X.K p.Hf vs ds → ((ixOf ds.length i).bind fun k => ds[k]?) = some d → ∃ z, atI vs i = some z ∧ Rp X.w X.K p.Hf z d := fun {ds vs i} r e => by
      rw [ixOf_eq] at e
      obtain ⟨j, e1, e2⟩ := Option.bind_eq_some_iff.mp e
      obtain ⟨z, e3, e4⟩ := r.get e2
      exact ⟨z, by unfold atI; rw [r.length, e1]; exact e3, e4⟩
    cases dx with
    | list ds =>
      cases dy with
      | int i =>
        cases ry.int ey
        obtain ⟨a, vs, rfl, h1, h2⟩ := rx.list s.sub ex
        obtain ⟨z, e1, e2⟩ := seq h2 h
        exact .inl (.inl ⟨a, vs, i, z, rfl, rfl, .inl (.inl h1), e1, g.same s e2⟩)
      | _ => cases h
    | tuple ds =>
      cases dy with
      | int i =>
        cases ry.int ey
        obtain ⟨a, vs, rfl, h1, h2⟩ := rx.tuple s.sub ex
        obtain ⟨z, e1, e2⟩ := seq h2 h
        exact .inl (.inr (.inl ⟨a, vs, i, z, rfl, rfl, h1, e1, g.same s e2⟩))
      | _ => cases h
    | str z =>
      cases dy with
      | int i =>
        cases ry.int ey
        cases rx.str ex
        have h : (if fits z.length then (ixOf z.cps.toList.length i).bind fun k => (z.cps.toList[k]?).map fun c => PyData.str ⟨#[c]⟩ else none) = some d := h
        split at h
        · rename_i hf
          obtain ⟨j, e1, e2⟩ := Option.bind_eq_some_iff.mp h
          obtain ⟨c, e3, rfl⟩ := Option.map_eq_some_iff.mp e2
          exact .inl (.inr (.inr ⟨z, i, c, rfl, rfl, fits_of hf, by unfold atI; rw [← ixOf_eq, e1]; exact e3, g.flat s rfl⟩))
        · cases h
      | _ => cases h
    | dict kvs =>
      have h : (if keysWith (kvs.map (·.1)) dy then dGet kvs dy else none) = some d := by
        cases dy <;> exact h
      split at h
      · rename_i hp
        obtain ⟨a, rfl, da⟩ := rx.dict s.sub ex
        exact .inr ⟨a, kvs, p.Hf, dy, d, rfl, ⟨s.sub, da, ry.rp s.sub ey, hp⟩, h, fun v r => g.same s r⟩
      · cases h
    | _ => cases dy <;> cases h
theorem s_ix {a b : E} {x y : Expr} (hu : X.A.units + 64 < cLine) (hy : notSlice y = true) (ha : PE X x (tE (cfg X Γ xcl fx) W a false)) (hb : PE X y (tE (cfg X Γ xcl fx) W b false)) : PE X (.Subscript x y pos) (tE (cfg X Γ xcl fx) W (.ix a b) m) := by
  refine (pe_ix (ix_all hu) ha hb (plainIx_of hy)).weak fun σ H Q ⟨p, s, q⟩ => ?_
  have q : OutP ((ev Γ a false >>= fun x => ev Γ b false >>= fun y => datM y >>= fun k => M.of (ixD x k) >>= fun d => pure (Val.d d)) p.S) _ _ := q
  refine two s (outP_mono (outP_bind q) (fun _ _ z => outP_bind z) fun _ _ z => z) (fun _ _ z => z) fun x y v u H2 p2 q2 s2 st2 rx ry => ?_
  obtain ⟨dy, ey, q2⟩ := outP_of (outP_bind q2)
  obtain ⟨d, e, q2⟩ := outP_of (outP_bind q2)
  exact ix_read rfl rfl s2 rx ry ey e (Got.of st2 (outP_pure q2))
/-! ### slices -/
def tO (c : Cfg) (W : WX) (o : Oe) : TO := fun σ H Q => ∃ p, c.sim p H σ ∧
  OutP (evo c.Γ o p.S) (fun i S' => ∀ H' p', p'.S = S' → c.sim p' H' σ → Step p H p' H' σ → Q i H') (EW c W σ p)
theorem tO.intro {c : Cfg} {σ : L2.St} {H : Hp} {p : Pt} {o : Oe} {Q : Option Int → Hp → Prop} {k : Option Int → Sta → Prop} {ke : Err → Sta → Prop} (s : c.sim p H σ) (h : OutP (evo c.Γ o p.S) k ke)
    (hk : ∀ b H' p', k b p'.S → c.sim p' H' σ → Step p H p' H' σ → Q b H') (he : ∀ e S, ke e S → EW c W σ p e S) : tO c W o σ H Q :=
  ⟨p, s, outP_mono h (fun b S' q H' p' e => by subst e; exact hk b H' p' q) he⟩
theorem _root_.L2.PO.weak {X : Cx} {e : Option Expr} {t t' : TO} (h : PO X e t) (i : ∀ σ H Q, t' σ H Q → t σ H Q) : PO X e t' := ⟨fun pins s σ H Q I q => h.run pins s σ H Q I (i σ H Q q)⟩
theorem o_none : PO X none (tO (cfg X Γ xcl fx) W .none) := po_none.weak fun σ H Q ⟨p, s, q⟩ => q H p rfl s (Step.refl p H σ)
theorem o_some {a : E} {x : Expr} (ha : PE X x (tE (cfg X Γ xcl fx) W a false)) : PO X (some x) (tO (cfg X Γ xcl fx) W (.some a)) := by
  refine (po_some ha).weak fun σ H Q ⟨p, s, q⟩ => ?_
  have q : OutP ((ev Γ a false >>= fun x => match x with | .d (.int i) => pure (some i) | _ => M.no) p.S) _ _ := q
  refine tE.intro s (outP_bind q) (fun val v H1 p1 q1 s1 st1 rv _ => ?_) fun _ _ z => z
  obtain ⟨i, rfl, rfl, q1⟩ := int_of rv q1
  exact ⟨i, rfl, outP_pure q1 H1 p1 rfl s1 st1⟩
theorem cutIx_eq (n d : Nat) : ∀ o : Option Int, cutIx n d o = HT.sIx n d o
  | none => rfl
  | some i => rfl
theorem cutL_eq {α : Type} (xs : List α) (lo hi : Option Int) : cutL xs lo hi = (xs.drop (HT.sIx xs.length 0 lo)).take (HT.sIx xs.length xs.length hi - HT.sIx xs.length 0 lo) := by
  unfold cutL
  rw [cutIx_eq, cutIx_eq]
def rSlAll (K : PySem.W.Frag) : V → Option Int → Option Int → Hp → VK → Prop := fun x lo hi H Q => (rSlL K x lo hi H Q ∨ rSlA K x lo hi H Q) ∨ rSlS x lo hi H Q
theorem sl_all : SlR X (rSlAll X.K) := SlR.or (SlR.or sl_list sl_tupA) sl_str
theorem RpAll.cut {w : World} {K : PySem.W.Frag} {H : Hp} {vs : List V} {ds : List PyData} (h : RpAll w K H vs ds) (lo hi : Option Int) : RpAll w K H (cutV vs lo hi) (cutL ds lo hi) := by
  rw [cutL_eq]
  unfold cutV
  rw [h.length]
  exact (h.drop _).take _
theorem sl_read {c : Cfg} {σ : L2.St} {p : Pt} {H : Hp} {Q : VK} {x val : Val} {v : V} {lo hi : Option Int} (s : c.sim p H σ) (rx : c.rv p H v x) (h : slD x lo hi = some val)
    (g : Got c σ p H Q val) : rSlAll c.K v lo hi H Q := by
  unfold slD at h
  cases ex : x.dat with
  | none => rw [ex] at h; cases h
  | some dx =>
    rw [ex] at h
    cases dx with
    | list ds =>
      cases h
      obtain ⟨a, vs, rfl, h1, h2⟩ := rx.list s.sub ex
      exact .inl (.inl ⟨a, vs, rfl, .inl (.inl h1), g.lst s (h2.cut lo hi)⟩)
    | tuple ds =>
      cases h
      obtain ⟨a, vs, rfl, h1, h2⟩ := rx.tuple s.sub ex
      refine .inl (.inr ⟨a, vs, rfl, h1, fun hw => ?_, fun _ => g.tup s (h2.cut lo hi)⟩)
      have e : cutL ds lo hi = ds := by
        rw [cutL_eq, ← h2.length, hw.1, hw.2]
        rw [h2.length]
        simp
      rw [e] at g
      have hx : x = .d (.tuple ds) := by cases x <;> first | (cases ex; rfl) | (cases ex; done)
      rw [hx] at rx
      exact g.same s rx
    | str z =>
      have h : (if fits z.length then some (str ⟨(cutL z.cps.toList lo hi).toArray⟩) else none) = some val := h
      split at h
      · rename_i hf
        cases h
        cases rx.str ex
        refine .inr ⟨z, rfl, fits_of hf, ?_⟩
        have e : cutS z lo hi = ⟨(cutL z.cps.toList lo hi).toArray⟩ := by
          rw [cutL_eq]
          unfold cutS
          rw [Array.length_toList]
          rfl
        rw [e]
        exact g.flat s rfl
      · cases h
    | _ => cases h
theorem s_sl {a : E} {lo hi : Oe} {x : Expr} {l h : Option Expr} {p2 : Pos} (ha : PE X x (tE (cfg X Γ xcl fx) W a false)) (hl : PO X l (tO (cfg X Γ xcl fx) W lo)) (hh : PO X h (tO (cfg X Γ xcl fx) W hi)) : PE X (.Subscript x (.Slice l h none p2) pos) (tE (cfg X Γ xcl fx) W (.sl a lo hi) m) := by
  refine (pe_slice sl_all ha hl hh).weak fun σ H Q ⟨p, s, q⟩ => ?_
  have q : OutP ((ev Γ a false >>= fun x => evo Γ lo >>= fun l => evo Γ hi >>= fun h => M.of (slD x l h)) p.S) _ _ := q
  refine tE.intro s (outP_bind q) (fun val v H1 p1 q1 s1 st1 rv _ => ?_) fun _ _ z => z
  refine tO.intro s1 (outP_bind q1) (fun l H2 p2 q2 s2 st2 => ?_) fun _ _ z => z.step st1
  refine tO.intro s2 (outP_bind q2) (fun h H3 p3 q3 s3 st3 => ?_) fun _ _ z => z.step (st1.trans st2)
  obtain ⟨val, e, q3⟩ := outP_of q3
  exact sl_read s3 ((rv.step st2).step st3) e (Got.of ((st1.trans st2).trans st3) q3)
end
end Mini

set_option Elab.async false
set_option linter.all false
set_option maxRecDepth 100000
set_option maxHeartbeats 2000000
namespace Mini
open PySem PySem.Spec PyProof.Rows L2
section
variable {X : Cx} {Γ : Env} {xcl : Str → Option Addr} {fx : Fx} {W : WX} {N : List Str} {sc : Scope} {st : Str → Bool} {k : Nat} {pos : Pos} {m : Bool}
/-! ### calls of built-in functions -/
theorem bi_gen {b : Bi} {f : Str} {p : Pos} {x : Expr} {xs : List Expr} {es : Es} {r : List V → Hp → VK → Prop} (hp : PE X (.Call (.Name f p) (x :: xs) [] pos) (tCB r (tLook (cfg X Γ xcl fx) W es)))
    (hr : ∀ σ p H Q vals vs val, (cfg X Γ xcl fx).sim p H σ → RVs X.w X.K p.Hf H p.L vs vals → biV b vals = some val → Got (cfg X Γ xcl fx) σ p H Q val → r vs H Q) : PE X (.Call (.Name f p) (x :: xs) [] pos) (tE (cfg X Γ xcl fx) W (.bi b es) m) := by
  refine hp.weak fun σ H Q ⟨p, s, q⟩ => ?_
  have q : OutP ((evb Γ es >>= fun vs => M.of (biV b vs)) p.S) _ _ := q
  refine tLook.intro s (outP_bind q) (fun vals vs H1 p1 q1 s1 st1 rvs => ?_) fun _ _ z => z
  obtain ⟨val, e, q1⟩ := outP_of q1
  exact hr σ p1 H1 Q vals vs val s1 rvs e (Got.of st1 q1)
/-- what a call's arguments must be -/
structure ArgOk (X : Cx) (x : Expr) (xs : List Expr) : Prop where
  he : starEach (x :: xs) X.env = (false, eval x X.env) :: starEach xs X.env
  hpl : ∀ pos : Pos, (backTo pos (starEach xs X.env)).any (·.1) = false
theorem argOk_of {es : Es} {x : Expr} {xs : List Expr} (h : isEs N sc es (x :: xs) = true) : ArgOk X x xs := by
  cases es with
  | nil => cases h
  | cons e r =>
    have h : (notStar x && (isE N sc e x && isEs N sc r xs)) = true := h
    simp only [Bool.and_eq_true] at h
    exact ⟨star_cons xs X.env h.1, fun pos => isEs_star h.2.2 X.env pos⟩
theorem RVs.one {w : World} {K : PySem.W.Frag} {Hf H : Hp} {L : Loc3} {vs : List V} {a : Val} (h : RVs w K Hf H L vs [a]) : ∃ v, vs = [v] ∧ RV w K Hf H L v a := by
  cases h with
  | cons h1 h2 => cases h2; exact ⟨_, rfl, h1⟩
theorem RVs.two {w : World} {K : PySem.W.Frag} {Hf H : Hp} {L : Loc3} {vs : List V} {a b : Val} (h : RVs w K Hf H L vs [a, b]) : ∃ v u, vs = [v, u] ∧ RV w K Hf H L v a ∧ RV w K Hf H L u b := by
  cases h with
  | cons h1 h2 =>
    cases h2 with
    | cons h2 h3 => cases h3; exact ⟨_, _, rfl, h1, h2⟩
/-! len -/
def rLenM (X : Cx) : List V → Hp → VK → Prop := fun xs H Q => ∃ (n : Nat), Q (.int n) H ∧ ((∃ p ys, xs = [.ref p] ∧ (SqL X.K H p ys ∨ SqT X.K H p ys) ∧ n = ys.length) ∨ (∃ z, xs = [.str z] ∧ z.length ≤ sizeLine ∧ n = z.length) ∨
  (∃ a kvs Hf, xs = [.ref a] ∧ DicAt X.w X.K Hf H a kvs ∧ kvs.length ≤ sizeLine ∧ n = kvs.length) ∨ ∃ a ys Hf, xs = [.ref a] ∧ SetAt X.w X.K Hf H a ys ∧ n = ys.length)
theorem call_lenM : CallR X (.builtin "len") (rLenM X) := by
  intro pins s σ H xs us Q I r h
  obtain ⟨n, q, h⟩ := h
  rcases h with ⟨p, ys, rfl, h, rfl⟩ | ⟨z, rfl, h, rfl⟩ | ⟨a, kvs, Hf, rfl, h, hz, rfl⟩ | ⟨a, ys, Hf, rfl, h, rfl⟩
  · exact call_len_seq pins s σ H _ us Q I r ⟨p, ys, rfl, h, q⟩
  · exact call_len_str pins s σ H _ us Q I r ⟨z, rfl, h, q⟩
  · obtain ⟨o, es, ep, kw, vw, h1, h2, h3, h4, h5, h6, h7, h8, h9, h10⟩ := h
    have hg : s.heap.get? a = some o := (I.hok _ _ h1).1
    rw [Vals.ref1 r]
    have hl : es.size = kvs.length := by
      have e := congrArg List.length h9
      simpa using e
    have hn := line63
    refine call_len_slot (n := (kvs.length : Int)) ⟨o, hg, h3.1⟩ PySem.F.slot_dict_len (fun Q' hq => call_len_raw (es := es) (ep := ep) h2 ⟨o, hg, h3, h4⟩ (by rw [hl]; exact hq)) (by omega) (by omega) ⟨.int kvs.length, H, I.tok _, ⟨_, rfl⟩, q⟩
  · obtain ⟨o, es, ep, t, zs, h1, h2, h3, h7, h6, h8, h9, h10, h11, h12, h13⟩ := h
    have hg : s.heap.get? a = some o := (I.hok _ _ h1).1
    rw [Vals.ref1 r]
    have hl : es.size = ys.length := by
      have e := Paired.length h7
      rw [h6.length_eq, Array.length_toList] at e
      exact e
    exact call_len_set hg h2 h3 h8 (by omega) (by rw [hl]; exact ⟨.int ys.length, H, I.tok _, ⟨_, rfl⟩, q⟩)
theorem len_read {c : Cfg} (hw : c.w = X.w) (hK : c.K = X.K) {σ : L2.St} {p : Pt} {H : Hp} {Q : VK} {x : Val} {v : V} {n : Nat} (s : c.sim p H σ) (rx : c.rv p H v x) (h : lenV x = some n) (q : Q (.int n) H) : rLenM X [v] H Q := by
  obtain ⟨w, K, Γ, xcl, fx⟩ := c
  cases hw
  cases hK
  refine ⟨n, q, ?_⟩
  have dic : ∀ {kvs : List (PyData × PyData)}, x.dat = some (.dict kvs) → (if fits kvs.length then some kvs.length else none) = some n → (∃ a kvs Hf, [v] = [.ref a] ∧ DicAt X.w X.K Hf H a kvs ∧ kvs.length ≤ sizeLine ∧ n = kvs.length) := fun {kvs} e h => by
    split at h
    · rename_i hf
      cases h
      obtain ⟨a, rfl, da⟩ := rx.dict s.sub e
      exact ⟨a, kvs, p.Hf, rfl, da, fits_of hf, rfl⟩
    · cases h
  cases x with
  | d x =>
    cases x with
    | str z =>
      have h : (if fits z.length then some z.length else none) = some n := h
      split at h
      · rename_i hf
        cases h
        cases rx.str rfl
        exact .inr (.inl ⟨z, rfl, fits_of hf, rfl⟩)
      · cases h
    | list xs =>
      cases h
      obtain ⟨a, vs, rfl, h1, h2⟩ := rx.list s.sub rfl
      exact .inl ⟨a, vs, rfl, .inl (.inl (.inl h1)), h2.length.symm⟩
    | tuple xs =>
      cases h
      obtain ⟨a, vs, rfl, h1, h2⟩ := rx.tuple s.sub rfl
      exact .inl ⟨a, vs, rfl, .inr h1, h2.length.symm⟩
    | dict kvs => exact .inr (.inr (.inl (dic rfl h)))
    | _ => cases h
  | ol xs =>
    cases h
    obtain ⟨a, vs, rfl, h1, h2⟩ := rx.list s.sub rfl
    exact .inl ⟨a, vs, rfl, .inl (.inl (.inl h1)), h2.length.symm⟩
  | od kvs => exact .inr (.inr (.inl (dic rfl h)))
  | os xs =>
    cases h
    obtain ⟨a, rfl, sa, _⟩ := rx
    exact .inr (.inr (.inr ⟨a, xs, p.Hf, rfl, sa, rfl⟩))
  | scr ns =>
    cases h
    obtain ⟨a, rfl, h1⟩ := rx
    exact .inl ⟨a, ns.map V.int, rfl, .inl (SqL.same s.sub h1), by simp⟩
  | drw => cases h
  | er _ _ => cases h
/-! flat items of a list -/
theorem bools_of : ∀ {xs : List PyData} {bs : List Bool} {vs : List V} {w : World} {K : PySem.W.Frag} {H : Hp}, allBools xs = some bs → RpAll w K H vs xs → vs = bs.map V.bl
  | [], bs, _, _, _, _, e, .nil => by cases e; rfl
  | .bool b :: r, bs, _, _, _, _, e, .cons h t => by
    obtain ⟨cs, e1, rfl⟩ := Option.map_eq_some_iff.mp (show (allBools r).map (b :: ·) = some bs from e)
    cases h
    rw [bools_of e1 t]; rfl
  | .none :: _, _, _, _, _, _, e, _ => by cases e
  | .int _ :: _, _, _, _, _, _, e, _ => by cases e
  | .str _ :: _, _, _, _, _, _, e, _ => by cases e
  | .list _ :: _, _, _, _, _, _, e, _ => by cases e
  | .tuple _ :: _, _, _, _, _, _, e, _ => by cases e
  | .dict _ :: _, _, _, _, _, _, e, _ => by cases e
theorem ints_of : ∀ {xs : List PyData} {bs : List Int} {vs : List V} {w : World} {K : PySem.W.Frag} {H : Hp}, allInts xs = some bs → RpAll w K H vs xs → vs = bs.map V.int
  | [], bs, _, _, _, _, e, .nil => by cases e; rfl
  | .int b :: r, bs, _, _, _, _, e, .cons h t => by
    obtain ⟨cs, e1, rfl⟩ := Option.map_eq_some_iff.mp (show (allInts r).map (b :: ·) = some bs from e)
    cases h
    rw [ints_of e1 t]; rfl
  | .none :: _, _, _, _, _, _, e, _ => by cases e
  | .bool _ :: _, _, _, _, _, _, e, _ => by cases e
  | .str _ :: _, _, _, _, _, _, e, _ => by cases e
  | .list _ :: _, _, _, _, _, _, e, _ => by cases e
  | .tuple _ :: _, _, _, _, _, _, e, _ => by cases e
  | .dict _ :: _, _, _, _, _, _, e, _ => by cases e
theorem strs_of : ∀ {xs : List PyData} {bs : List Str} {vs : List V} {w : World} {K : PySem.W.Frag} {H : Hp}, allStrs xs = some bs → RpAll w K H vs xs → vs = bs.map V.str
  | [], bs, _, _, _, _, e, .nil => by cases e; rfl
  | .str b :: r, bs, _, _, _, _, e, .cons h t => by
    obtain ⟨cs, e1, rfl⟩ := Option.map_eq_some_iff.mp (show (allStrs r).map (b :: ·) = some bs from e)
    cases h
    rw [strs_of e1 t]; rfl
  | .none :: _, _, _, _, _, _, e, _ => by cases e
  | .bool _ :: _, _, _, _, _, _, e, _ => by cases e
  | .int _ :: _, _, _, _, _, _, e, _ => by cases e
  | .list _ :: _, _, _, _, _, _, e, _ => by cases e
  | .tuple _ :: _, _, _, _, _, _, e, _ => by cases e
  | .dict _ :: _, _, _, _, _, _, e, _ => by cases e
/-! repr -/
def rReprM (X : Cx) : List V → Hp → VK → Prop := fun xs H Q => ∃ x d, xs = [x] ∧ Rp X.w X.K H x d ∧ showOk d = true ∧ Q (.str d.shown) H
theorem call_reprM (hg : X.A.guards = some []) (hu : X.A.units + 64 < cLine) : CallR X (.builtin "repr") (rReprM X) := by
  intro pins s σ H xs us Q I r h
  obtain ⟨x, d, rfl, rp, hs, q⟩ := h
  obtain ⟨u, rfl, ru⟩ := vals1 r
  unfold showOk at hs
  simp only [Bool.and_eq_true, Bool.not_eq_true', decide_eq_true_eq] at hs
  obtain ⟨⟨⟨h1, h2⟩, h3⟩, h4⟩ := hs
  have hz := fits_of h3
  have ref : ∀ a, u = .ref a → wpAny (model X.prog X.w) X.A (call (.builtin "repr") [u]) (EP X pins σ Q) X.xe s := fun a e => by
    subst e
    obtain ⟨as, rd⟩ := Rp.reads I d x _ rp ru
    exact repr_of_reads' rd h1 (PyData.noDict_hsm h2) hg (by omega) (fun _ _ e => e) (fun h' t tk hk => ⟨.str d.shown, H, I.kept (t' := tk) hk, ⟨t, rfl⟩, q⟩) hz
  cases d with
  | none => cases rp; cases ru; exact PySem.P.repr_of_none ⟨.str _, H, I.tok _, ⟨_, rfl⟩, q⟩
  | bool b => cases rp; cases ru; exact PySem.P.repr_of_bool ⟨.str _, H, I.tok _, ⟨_, rfl⟩, q⟩
  | int i =>
    cases rp
    obtain ⟨t, rfl⟩ := ru
    exact PySem.P.repr_of_int (of_decide_eq_true h1) ⟨.str _, H, I.tok _, ⟨_, rfl⟩, q⟩
  | str y =>
    cases rp
    obtain ⟨t, rfl⟩ := ru
    exact PySem.P.repr_of_str ⟨.str _, H, I.tok _, ⟨_, rfl⟩, q⟩ hz
  | list ys => cases rp; exact ref _ ru
  | tuple ys => cases rp; exact ref _ ru
  | dict ys => cases h2
/-! sorted -/
theorem each_of {w : World} {K : PySem.W.Frag} {Hf : Hp} : ∀ {vs : List V} {us : List Value} {ds : List PyData}, Vals vs us → RpAll w K Hf vs ds → PySem.W.EachIs (fun u d => ∃ v, RelV v u ∧ Rp w K Hf v d) us ds
  | _, _, _, .nil, .nil => .nil
  | _, _, _, .cons r1 r2, .cons h1 h2 => .cons ⟨_, r1, h1⟩ (each_of r2 h2)
theorem of_each {w : World} {K : PySem.W.Frag} {Hf : Hp} : ∀ {us : List Value} {ds : List PyData}, PySem.W.EachIs (fun u d => ∃ v, RelV v u ∧ Rp w K Hf v d) us ds → ∃ vs, Vals vs us ∧ RpAll w K Hf vs ds
  | _, _, .nil => ⟨[], .nil, .nil⟩
  | _, _, .cons ⟨v, r, h⟩ t => by
    obtain ⟨vs, r2, h2⟩ := of_each t
    exact ⟨v :: vs, .cons r r2, .cons h h2⟩
theorem each_reads {pins : List (Addr × Obj)} {σ : L2.St} {H : Hp} {s : Shared} (I : Inv X pins σ H s) : ∀ {vs : List V} {us : List Value} {ds : List PyData}, Vals vs us → RpAll X.w X.K H vs ds → PySem.W.EachIs (fun u d => ∃ as, Reads s.heap u d as) us ds
  | _, _, _, .nil, .nil => .nil
  | _, _, _, .cons r1 r2, .cons h1 h2 => .cons (Rp.reads I _ _ _ h1 r1) (each_reads I r2 h2)
structure SortOk (xs : List PyData) : Prop where
  al : PySem.W.AllAlike xs
  so : PySem.W.Sortable xs
  dp : ∀ x ∈ xs, x.depth ≤ 60
  sz : xs.length ≤ sizeLine
theorem sortOk_of {xs : List PyData} (h : sortOk xs = true) : SortOk xs := by
  unfold sortOk at h
  simp only [Bool.and_eq_true, List.all_eq_true, decide_eq_true_eq, Bool.or_eq_true] at h
  obtain ⟨⟨⟨h1, h2⟩, h3⟩, h4⟩ := h
  refine ⟨fun d hd d' hd' => h1 d hd d' hd', ?_, h2, fits_of h3⟩
  rcases h4 with h4 | h4
  · refine .inl fun d hd => ?_
    have z := h4 d hd
    split at z
    · exact ⟨_, _, rfl⟩
    · cases z
  · refine .inr fun d hd => ?_
    have z := h4 d hd
    simp only [Bool.not_eq_true'] at z
    exact ⟨fun e => by rw [e] at z; exact absurd z.1 (by decide), fun ys e => by rw [e] at z; exact absurd z.2 Bool.noConfusion⟩
def rSortM (X : Cx) : List V → Hp → VK → Prop := fun xs H Q => ∃ a vs ys Hf, xs = [.ref a] ∧ H a = some (.lst vs) ∧ Same Hf H ∧ RpAll X.w X.K Hf vs ys ∧ sortOk ys = true ∧ ∀ us p, RpAll X.w X.K Hf us (sortL ys) → H p = none → Q (.ref p) (upd H p (.lst us))
theorem call_sortM (hu : X.A.units + 64 < cLine) : CallR X (.builtin "sorted") (rSortM X) := by
  intro pins s σ H xs us Q I r h
  obtain ⟨a, vs, ys, Hf, rfl, h1, sm, rp, so, q⟩ := h
  obtain ⟨its, rv, hl, hz⟩ := I.list (.inl (.inl h1))
  rw [Vals.ref1 r]
  have so := sortOk_of so
  have e1 := each_of rv rp
  have e2 : PySem.W.EachIs (fun u d => ∃ as, Reads s.heap u (id d) as) its ys := each_reads I rv (RpAll.mono sm _ _ rp)
  refine PySem.W.sorted_data (enc := id) hl.isList e1 e2 (by rw [List.map_id]; exact so.al) (by rw [List.map_id]; exact so.so) so.sz (fun b hb => by have := so.dp b hb; show X.A.units + 2 + b.depth < cLine; omega) fun out ho eo => ?_
  obtain ⟨ws, r1, r2⟩ := of_each eo
  obtain ⟨ep, he'⟩ := PyProof.Rows.sortedAll_at s.heap its (List.toArray out)
  exact ⟨.ref _, upd H (s.heap.objs.size + 1) (.lst ws), I.laid (t' := s.toks) (fun _ _ => PyProof.Rows.sortedAll_old) (Nat.le_succ _) ⟨by rw [r1.length, ho]; exact so.sz, out, ep, r1, he'⟩, rfl, q ws _ r2 (I.hok.fresh (Nat.le_succ _))⟩
end
end Mini

set_option Elab.async false
set_option linter.all false
set_option maxRecDepth 100000
set_option maxHeartbeats 4000000
namespace Mini
open PySem PySem.Spec PyProof.Rows L2
theorem paired_perm {α β : Type} {R : α → β → Prop} {l l' : List α} (p : l'.Perm l) : ∀ {m : List β}, Paired R l m → ∃ m', m'.Perm m ∧ Paired R l' m' := by
  induction p with
  | nil => intro m h; cases h; exact ⟨[], .refl _, .nil⟩
  | cons x _ ih =>
    intro m h
    cases h with
    | cons h1 h2 =>
      obtain ⟨m', p, q⟩ := ih h2
      exact ⟨_ :: m', p.cons _, .cons h1 q⟩
  | swap x y l =>
    intro m h
    cases h with
    | cons h1 h2 =>
      cases h2 with
      | cons h2 h3 => exact ⟨_, List.Perm.swap _ _ _, .cons h2 (.cons h1 h3)⟩
  | trans _ _ ih1 ih2 =>
    intro m h
    obtain ⟨m2, p2, q2⟩ := ih2 h
    obtain ⟨m3, p3, q3⟩ := ih1 q2
    exact ⟨m3, p3.trans p2, q3⟩
theorem paired_app {α β : Type} {R : α → β → Prop} : ∀ {l1 l2 : List α} {m1 m2 : List β}, Paired R l1 m1 → Paired R l2 m2 → Paired R (l1 ++ l2) (m1 ++ m2)
  | _, _, _, _, .nil, h => h
  | _, _, _, _, .cons h t, h2 => .cons h (paired_app t h2)
theorem paired_map {α β γ δ : Type} {R : α → β → Prop} {S : γ → δ → Prop} {f : α → γ} {g : β → δ} (h : ∀ a b, R a b → S (f a) (g b)) : ∀ {l : List α} {m : List β}, Paired R l m → Paired S (l.map f) (m.map g)
  | _, _, .nil => .nil
  | _, _, .cons x t => .cons (h _ _ x) (paired_map h t)
theorem paired_mem {α β : Type} {R : α → β → Prop} : ∀ {l : List α} {m : List β}, Paired R l m → ∀ a ∈ l, ∃ b ∈ m, R a b
  | _, _, .nil, _, h => by cases h
  | _, _, .cons x t, a, h => by
    rcases List.mem_cons.mp h with e | h
    · subst e; exact ⟨_, List.mem_cons_self, x⟩
    · obtain ⟨b, hb, r⟩ := paired_mem t a h
      exact ⟨b, List.mem_cons_of_mem _ hb, r⟩
theorem paired_mem' {α β : Type} {R : α → β → Prop} : ∀ {l : List α} {m : List β}, Paired R l m → ∀ b ∈ m, ∃ a ∈ l, R a b
  | _, _, .nil, _, h => by cases h
  | _, _, .cons x t, a, h => by
    rcases List.mem_cons.mp h with e | h
    · subst e; exact ⟨_, List.mem_cons_self, x⟩
    · obtain ⟨b, hb, r⟩ := paired_mem' t a h
      exact ⟨b, List.mem_cons_of_mem _ hb, r⟩
section
variable {X : Cx} {pins : List (Addr × Obj)} {σ : L2.St} {H Hf : Hp} {s : Shared} {a : Addr} {xs : List PyData} {A : Around} {E : Value → Shared → Prop}
theorem scan_of {w : World} {K : PySem.W.Frag} {H : Hp} {x : PyData} {v : V} {u : Value} (h : flatKey x = true) (r : Rp w K H v x) (ru : RelV v u) : u.scannable = true := by
  cases x with
  | none => cases r; cases ru; rfl
  | int i => cases r; obtain ⟨t, rfl⟩ := ru; rfl
  | str y => cases r; obtain ⟨t, rfl⟩ := ru; rfl
  | bool b => cases h
  | list xs => cases h
  | tuple xs => cases h
  | dict xs => cases h
theorem hash_flat {P : Program} {w : World} {x : PyData} (h : flatKey x = true) : (flatKind P w).hash (leafOf x) = hashD w x := by
  show (leafOf x).key.hash w = hashD w x
  unfold hashD
  rw [toKey_flat h]
theorem sPut_len {ys : List PyData} {k : PyData} : (sPut ys k).length ≤ ys.length + 1 := by
  unfold sPut
  split
  · omega
  · rw [List.length_append]; exact Nat.le_refl _
theorem sPut_ok {k : PyData} (h : keysOk xs = true) (hw : keysWith xs k = true) : keysOk (sPut xs k) = true := by
  unfold sPut
  split
  · exact h
  · rename_i hn
    exact keysOk_push h hw (by simpa using hn)
theorem rp_ref_tup {w : World} {K : PySem.W.Frag} {H : Hp} {v : V} {d : PyData} (h : isTupD d = true) (r : Rp w K H v d) : ∃ b, v = .ref b := by
  cases d with
  | tuple ds => cases r; exact ⟨_, rfl⟩
  | _ => cases h
/-- the members of a set of tuples -/
theorem mems_of {w : World} {K : PySem.W.Frag} : ∀ {es : List (Int × Value)} {ys : List PyData}, Paired (E3 w K Hf) es ys → (∀ y ∈ ys, isTupD y = true ∧ keyOk y = true) →
    ∃ L : List Mem, es = rowsG w L ∧ Paired (fun (p : Mem) (d : PyData) => p.1 = keyOf d ∧ Rp w K Hf (.ref p.2) d) L ys
  | _, _, .nil, _ => ⟨[], rfl, .nil⟩
  | e :: es, d :: ys, .cons ⟨v, h1, h2, h3⟩ t, hy => by
    obtain ⟨L, e', p⟩ := mems_of t fun y h => hy y (List.mem_cons_of_mem _ h)
    obtain ⟨h4, h5⟩ := hy _ List.mem_cons_self
    obtain ⟨b, rfl⟩ := rp_ref_tup h4 h2
    refine ⟨(keyOf d, b) :: L, ?_, .cons ⟨rfl, h2⟩ p⟩
    obtain ⟨i, u⟩ := e
    have e1 : u = .ref b := h1
    have e2 : i = (keyOf d).hash w := by
      have h3 : i = hashD w d := h3
      rw [h3]
      unfold hashD
      rw [(keyOk_some h5).1]
    rw [e', e1, e2]
    rfl
theorem back_mems {w : World} {K : PySem.W.Frag} : ∀ {L : List Mem} {ys : List PyData}, Paired (fun (p : Mem) (d : PyData) => p.1 = keyOf d ∧ Rp w K Hf (.ref p.2) d) L ys → (∀ y ∈ ys, keyOk y = true) → Paired (E3 w K Hf) (rowsG w L) ys
  | _, _, .nil, _ => .nil
  | p :: L, d :: ys, .cons ⟨h1, h2⟩ t, hy => by
    refine .cons ⟨.ref p.2, rfl, h2, ?_⟩ (back_mems t fun y h => hy y (List.mem_cons_of_mem _ h))
    show p.1.hash w = hashD w d
    unfold hashD
    rw [(keyOk_some (hy _ List.mem_cons_self)).1, h1]
theorem mems_keys {w : World} {K : PySem.W.Frag} : ∀ {L : List Mem} {ys : List PyData}, Paired (fun (p : Mem) (d : PyData) => p.1 = keyOf d ∧ Rp w K Hf (.ref p.2) d) L ys → L.map (·.1) = ys.map keyOf
  | _, _, .nil => rfl
  | _, _, .cons h t => by rw [List.map_cons, List.map_cons, mems_keys t, h.1]
theorem sHas_iff {k : PyData} (hk : keyOk k = true) (hx : ∀ x ∈ xs, keyOk x = true) : sHas xs k = true ↔ keyOf k ∈ xs.map keyOf := by
  unfold sHas
  rw [List.any_eq_true]
  constructor
  · rintro ⟨x, h1, h2⟩
    rw [keyEq_of (hx x h1) hk] at h2
    exact List.mem_map.mpr ⟨x, h1, of_decide_eq_true h2⟩
  · intro h
    obtain ⟨x, h1, h2⟩ := List.mem_map.mp h
    exact ⟨x, h1, by rw [keyEq_of (hx x h1) hk]; exact decide_eq_true h2⟩
theorem all_tup {k : PyData} (hw : keysWith xs k = true) (ht : isTupD k = true) : xs.all isTupD = true := by
  rw [List.all_eq_true]
  intro x hx
  rw [(keysWith_of hw).2 x hx]; exact ht
/-- a thing is put into a set -/
theorem set_put {y : V} {k : PyData} {u : Value} {Q : Bool → Shared → Prop} (hu : A.units + 64 < cLine) (I : Inv X pins σ H s) (sub : Same Hf H) (sa : SetAt X.w X.K Hf H a xs) (ry : Rp X.w X.K Hf y k) (ru : RelV y u) (hw : keysWith xs k = true)
    (hz : if isTupD k then xs.length < 62 else xs.length < 3990) (h : ∀ b o' s', Inv X pins σ (upd H a (exO a o')) s' → SetAt X.w X.K Hf (upd H a (exO a o')) a (sPut xs k) → Q b s') :
    wpAny (model X.prog X.w) A (setAddHashed a u (hashD X.w k)) Q E s := by
  obtain ⟨o, es, ep, t, ys, h1, h2, h3, h4, h5, h6, h7, h8, h9, h10, h11⟩ := sa
  have ho : s.heap.get? a = some o := (I.hok _ _ h1).1
  obtain ⟨hk, hks⟩ := keysWith_of hw
  have hall := keysOk_all h9
  have hys : ∀ y ∈ ys, keyOk y = true := fun y hy => hall y (h5.mem_iff.mp hy)
  have same : sHas xs k = true → ∀ b s', Inv X pins σ H s' → Q b s' := fun hh b s' I' => by
    have e : upd H a (exO a o) = H := by
      funext b
      by_cases z : b = a
      · subst z; rw [upd_same]; exact h1.symm
      · rw [upd_ne z]
    refine h b o s' (by rw [e]; exact I') ⟨o, es, ep, t, ys, upd_same, h2, h3, h4, ?_, h6, h7, h8, ?_, ?_, ?_⟩
    all_goals (unfold sPut; rw [if_pos hh]; first | exact h5 | exact h9 | exact h10 | exact h11)
  by_cases ht : isTupD k = true
  · rw [if_pos ht] at hz
    obtain ⟨T, hroom, h64⟩ := h11 (all_tup hw ht)
    obtain ⟨L, e1, pr⟩ := mems_of h4 fun y hy => ⟨by rw [hks y (h5.mem_iff.mp hy)]; exact ht, hys y hy⟩
    obtain ⟨b, rfl⟩ := rp_ref_tup ht ry
    cases (show u = Value.ref b from ru)
    have hkeys : L.map (·.1) = ys.map keyOf := mems_keys pr
    have hll : L.length = xs.length := by
      have e := congrArg List.length hkeys
      rw [List.length_map, List.length_map, h5.length_eq] at e
      exact e
    have hh : hashD X.w k = (keyOf k).hash X.w := by
      unfold hashD
      rw [(keyOk_some hk).1]
    have memOf : ∀ {c : Addr} {d : PyData}, keyOk d = true → Rp X.w X.K Hf (.ref c) d → MemOk s.heap (keyOf d, c) := fun {c d} hd r => ⟨Rp.nested I d _ _ _ (keyOk_some hd).1 (Rp.mono sub _ _ r) rfl, (keyOk_some hd).2⟩
    have R : SetG X.w s.heap a L es ep t := by
      refine ⟨⟨o, ho, h2, h3⟩, e1, ?_, ?_, fun p hp => ?_, h8, by rw [hll]; exact hroom, by rw [hll]; exact h64⟩
      · rw [e1] at T
        have e : (rowsG X.w L).map (·.1) = L.map fun p => p.1.hash X.w := by unfold rowsG; rw [List.map_map]; rfl
        rw [e] at T
        exact T
      · rw [hkeys]
        exact (h5.map keyOf).nodup_iff.mpr (keysOk_nodup h9 fun x hx y hy => keyEq_of (hall x hx) (hall y hy))
      · obtain ⟨d, hd, e2, r⟩ := paired_mem pr p hp
        obtain ⟨q, c⟩ := p
        cases (show q = keyOf d from e2)
        exact memOf (hys d hd) r
    rw [hh]
    refine put_in R (memOf hk ry) hu (by rw [hll]; omega) fun b' h' L' es' ep' t' sb R' hin hout => ?_
    obtain ⟨o', ho', hex', hd'⟩ := R'.ob
    have fin : ∀ ys', ys'.Perm (sPut xs k) → Paired (fun (p : Mem) (d : PyData) => p.1 = keyOf d ∧ Rp X.w X.K Hf (.ref p.2) d) L' ys' → Q b' { s with heap := h' } := fun ys' pm pr' => by
      have hok := sPut_ok h9 hw
      have hl' : L'.length = (sPut xs k).length := by rw [Paired.length pr', pm.length_eq]
      refine h b' o' _ (write_ex (t' := s.toks) I h1 sb ho') ⟨o', es', ep', t', ys', upd_same, hex', hd', ?_, pm, SetG.fits (s := { s with heap := h' }) R', R'.tab.ris, R'.led, hok, ?_, fun _ => ⟨?_, ?_, ?_⟩⟩
      · rw [R'.rows]
        exact back_mems pr' fun y hy => keysOk_all hok y (pm.mem_iff.mp hy)
      · have := sPut_len (ys := xs) (k := k); omega
      · rw [R'.rows]
        have e : (rowsG X.w L').map (·.1) = L'.map fun p => p.1.hash X.w := by unfold rowsG; rw [List.map_map]; rfl
        rw [e]; exact R'.tab
      · rw [← hl']; exact R'.room
      · rw [← hl']; exact R'.few
    by_cases hm : keyOf k ∈ L.map (·.1)
    · have hs : sHas xs k = true := (sHas_iff hk hall).mpr (by rw [hkeys] at hm; exact (h5.map keyOf).mem_iff.mp hm)
      refine fin ys (by unfold sPut; rw [if_pos hs]; exact h5) (by rw [hin hm]; exact pr)
    · have hs : sHas xs k = false := by
        cases z : sHas xs k with
        | false => rfl
        | true => exact absurd (by rw [hkeys]; exact (h5.map keyOf).mem_iff.mpr ((sHas_iff hk hall).mp z)) hm
      obtain ⟨ys', p1, p2⟩ := paired_perm (hout hm) (Paired.cons (show (keyOf k, b).1 = keyOf k ∧ Rp X.w X.K Hf (.ref (keyOf k, b).2) k from ⟨rfl, ry⟩) pr)
      refine fin ys' ?_ p2
      unfold sPut
      rw [hs]
      exact (p1.trans (h5.cons k)).trans (List.perm_append_singleton k xs).symm
  · have ht' : isTupD k = false := by simpa using ht
    rw [if_neg ht] at hz
    have fk := flatKey_of hk ht'
    have fx : ∀ x ∈ xs, flatKey x = true := fun x hx => flatKey_of (hall x hx) (by rw [hks x hx]; exact ht')
    have fy : ∀ y ∈ ys, flatKey y = true := fun y hy => fx y (h5.mem_iff.mp hy)
    have isOf : ∀ {e : Int × Value} {d : PyData}, flatKey d = true → E3 X.w X.K Hf e d → (flatKind X.prog X.w).is (leafOf d) e.2 = true ∧ e.1 = (flatKind X.prog X.w).hash (leafOf d) ∧ e.2.scannable = true := fun {e d} fd ⟨v, r1, r2, r3⟩ => ⟨flat_is fd r2 r1, by rw [hash_flat fd]; exact r3, scan_of fd r2 r1⟩
    have hel : ElemsOf (flatKind X.prog X.w) es.toList := fun e he => by
      obtain ⟨d, hd, r⟩ := paired_mem h4 e he
      obtain ⟨q1, q2, q3⟩ := isOf (fy d hd) r
      exact ⟨⟨_, q1, q2⟩, q3⟩
    have hsz : es.size = xs.length := by
      rw [← Array.length_toList, Paired.length h4, h5.length_eq]
    have hit : (∃ e ∈ es.toList, (flatKind X.prog X.w).is (leafOf k) e.2 = true) ↔ sHas xs k = true := by
      unfold sHas
      rw [List.any_eq_true]
      constructor
      · rintro ⟨e, he, hp⟩
        obtain ⟨d, hd, r⟩ := paired_mem h4 e he
        have e2 := (flatKind X.prog X.w).inj _ _ _ (isOf (fy d hd) r).1 hp
        exact ⟨d, h5.mem_iff.mp hd, by rw [keyEq_flat (fy d hd) fk]; exact decide_eq_true e2⟩
      · rintro ⟨d, hd, e2⟩
        rw [keyEq_flat (fx d hd) fk] at e2
        obtain ⟨e, he, r⟩ := paired_mem' h4 d (h5.mem_iff.mpr hd)
        have q := (isOf (fx d hd) r).1
        rw [of_decide_eq_true e2] at q
        exact ⟨e, he, q⟩
    rw [← hash_flat (P := X.prog) fk]
    refine flat_put ⟨⟨o, ho, h2, h3⟩, h6, h7, h8⟩ hel (flat_is fk ry ru) (scan_of fk ry ru) (by rw [hsz]; show xs.length + 1 < 4096; omega) (fun z => same (hit.mp z) false s I) fun hn h' es' ep' t' sb R' pm => ?_
    have hs : sHas xs k = false := by
      cases z : sHas xs k with
      | false => rfl
      | true => exact absurd (hit.mpr z) hn
    obtain ⟨o', ho', hex', hd'⟩ := R'.ob
    obtain ⟨ys', p1, p2⟩ := paired_perm pm (paired_app h4 (.cons (show E3 X.w X.K Hf ((flatKind X.prog X.w).hash (leafOf k), u) k from ⟨y, ru, ry, hash_flat (P := X.prog) fk⟩) .nil))
    have e : sPut xs k = xs ++ [k] := by unfold sPut; rw [hs]; rfl
    refine h true o' _ (write_ex (t' := s.toks) I h1 sb ho') ⟨o', es', ep', t', ys', upd_same, hex', hd', p2, ?_, R'.fits, R'.ris, R'.led, sPut_ok h9 hw, ?_, fun z => ?_⟩
    · rw [e]; exact p1.trans (h5.append_right _)
    · have := sPut_len (ys := xs) (k := k); omega
    · rw [e, List.all_append] at z
      simp only [Bool.and_eq_true, List.all_cons, List.all_nil, Bool.and_true] at z
      exact absurd z.2 ht
end
end Mini

set_option Elab.async false
set_option linter.all false
set_option maxRecDepth 100000
set_option maxHeartbeats 4000000
namespace Mini
open PySem PySem.Spec PyProof.Rows L2
/-! ### sets by keys, in the heap itself -/
def isTupK : NestedKey → Bool
  | .tup _ => true
  | _ => false
abbrev KV1 := NestedKey × Value
structure KeyV (P : Program) (w : World) (h : Heap) (p : KV1) : Prop where
  is : NestedIs h p.1 p.2
  dp : p.1.depth ≤ 8
  tup : isTupK p.1 = true → ∃ b, p.2 = .ref b
  flat : isTupK p.1 = false → ∃ l : Leaf, p.1 = l.key ∧ (flatKind P w).is l p.2 = true ∧ p.2.scannable = true
structure SetK (P : Program) (w : World) (h : Heap) (a : Addr) (L : List KV1) (es : Array (Int × Value)) (ep : Nat) (t : SetTable) : Prop where
  raw : RawS w h a es ep t
  rows : es.toList = L.map fun p => (p.1.hash w, p.2)
  nd : (L.map (·.1)).Nodup
  mem : ∀ p ∈ L, KeyV P w h p
  lt : L.length < 4000
  tab : (∀ p ∈ L, isTupK p.1 = true) → TabOk t (L.map fun p => p.1.hash w) ∧ L.length * 5 < t.mask * 3 ∧ L.length < 64
section
variable {P : Program} {w : World} {A : Around} {E : Value → Shared → Prop} {s : Shared} {a : Addr} {L : List KV1} {es : Array (Int × Value)} {ep : Nat} {t : SetTable}
theorem KeyV.at {h h' : Heap} {p : KV1} (k : KeyV P w h p) (hk : ∀ b o vs n, h.get? b = some o → o.data = .seq vs n → h'.get? b = some o) : KeyV P w h' p := ⟨NestedIs.at hk _ _ k.is, k.dp, k.tup, k.flat⟩
theorem KeyV.same {h h' : Heap} {p : KV1} {o : Obj} (k : KeyV P w h p) (ho : h.get? a = some o) (hd : o.data = .set es ep t) (hs : Heap.SameBut a h h') : KeyV P w h' p :=
  k.at fun b ob vs n hb hc => (hs.2 b fun e => by subst e; rw [ho] at hb; cases hb; rw [hd] at hc; cases hc).trans hb
theorem addr_of : ∀ (L : List KV1), (∀ p ∈ L, ∃ b, p.2 = Value.ref b) → ∃ M : List Mem, L = M.map fun p => (p.1, Value.ref p.2)
  | [], _ => ⟨[], rfl⟩
  | p :: L, h => by
    obtain ⟨M, e⟩ := addr_of L fun q hq => h q (List.mem_cons_of_mem _ hq)
    obtain ⟨b, eb⟩ := h p List.mem_cons_self
    refine ⟨(p.1, b) :: M, ?_⟩
    rw [List.map_cons, ← e]
    show p :: L = (p.1, Value.ref b) :: L
    rw [← eb]
theorem perm_map {α β : Type} {f : α → β} {l : List β} {m : List α} (h : l.Perm (m.map f)) : ∃ m' : List α, m'.Perm m ∧ l = m'.map f := by
  have self : ∀ m : List α, Paired (fun (b : β) (a : α) => b = f a) (m.map f) m := fun m => by
    induction m with
    | nil => exact .nil
    | cons a m ih => exact .cons rfl ih
  obtain ⟨m', p1, p2⟩ := paired_perm h (self m)
  refine ⟨m', p1, ?_⟩
  clear p1 h
  induction p2 with
  | nil => rfl
  | cons h _ ih => rw [List.map_cons, ← h, ← ih]
theorem raw_put (R : SetK P w s.heap a L es ep t) {k : NestedKey} {x : Value} (hx : KeyV P w s.heap (k, x)) (huni : ∀ p ∈ L, isTupK p.1 = isTupK k) (hz : if isTupK k then L.length < 62 else L.length < 3990) (hu : A.units + 64 < cLine) {Q : Bool → Shared → Prop}
    (hQ : ∀ b h' L' es' ep' t', Heap.SameBut a s.heap h' → SetK P w h' a L' es' ep' t' → (k ∈ L.map (·.1) → L' = L) → (k ∉ L.map (·.1) → L'.Perm ((k, x) :: L)) → Q b { s with heap := h' }) :
    wpAny (model P w) A (setAddHashed a x (k.hash w)) Q E s := by
  obtain ⟨o, ho, hex, hd⟩ := R.raw.ob
  by_cases ht : isTupK k = true
  · rw [if_pos ht] at hz
    have allT : ∀ p ∈ L, isTupK p.1 = true := fun p hp => (huni p hp).trans ht
    obtain ⟨T, room, few⟩ := R.tab allT
    obtain ⟨M, e⟩ := addr_of L fun p hp => (R.mem p hp).tup (allT p hp)
    obtain ⟨b, eb⟩ := hx.tup ht
    cases (show x = Value.ref b from eb)
    have hk : M.map (·.1) = L.map (·.1) := by rw [e, List.map_map]; rfl
    have hh : (M.map fun p => p.1.hash w) = L.map fun p => p.1.hash w := by rw [e, List.map_map]; rfl
    have hl : M.length = L.length := by rw [e, List.length_map]
    have G : SetG w s.heap a M es ep t := by
      refine ⟨⟨o, ho, hex, hd⟩, ?_, by rw [hh]; exact T, by rw [hk]; exact R.nd, fun p hp => ?_, R.raw.led, by rw [hl]; exact room, by rw [hl]; exact few⟩
      · rw [R.rows, e, List.map_map]; rfl
      · have hm : (p.1, Value.ref p.2) ∈ L := by rw [e]; exact List.mem_map.mpr ⟨p, hp, rfl⟩
        exact ⟨(R.mem _ hm).is, (R.mem _ hm).dp⟩
    refine put_in G (x := b) ⟨hx.is, hx.dp⟩ hu (by rw [hl]; omega) fun b' h' M' es' ep' t' sb G' hin hout => ?_
    have hT' : ∀ p ∈ M', isTupK p.1 = true := fun p hp => by
      by_cases hm : k ∈ M.map (·.1)
      · rw [hin hm] at hp
        have hm : (p.1, Value.ref p.2) ∈ L := by rw [e]; exact List.mem_map.mpr ⟨p, hp, rfl⟩
        exact allT _ hm
      · rcases List.mem_cons.mp ((hout hm).mem_iff.mp hp) with z | z
        · rw [z]; exact ht
        · have hm : (p.1, Value.ref p.2) ∈ L := by rw [e]; exact List.mem_map.mpr ⟨p, z, rfl⟩
          exact allT _ hm
    refine hQ b' h' (M'.map fun p => (p.1, Value.ref p.2)) es' ep' t' sb ⟨⟨G'.ob, SetG.fits (s := { s with heap := h' }) G', G'.tab.ris, G'.led⟩, ?_, ?_, fun p hp => ?_, ?_, fun _ => ⟨?_, ?_, ?_⟩⟩ (fun z => ?_) fun z => ?_
    · rw [G'.rows, List.map_map]; rfl
    · rw [List.map_map]; exact G'.nd
    · obtain ⟨q, hq, rfl⟩ := List.mem_map.mp hp
      exact ⟨(G'.mem q hq).1, (G'.mem q hq).2, fun _ => ⟨q.2, rfl⟩, fun z => by rw [show isTupK q.1 = true from hT' q hq] at z; cases z⟩
    · rw [List.length_map]; have := G'.few; omega
    · rw [List.map_map]; exact G'.tab
    · rw [List.length_map]; exact G'.room
    · rw [List.length_map]; exact G'.few
    · rw [hin (by rw [hk]; exact z)]; exact e.symm
    · have := (hout (by rw [hk]; exact z)).map fun p : Mem => (p.1, Value.ref p.2)
      rw [List.map_cons, ← e] at this
      exact this
  · have ht' : isTupK k = false := by simpa using ht
    rw [if_neg ht] at hz
    obtain ⟨l, el, il, sl⟩ := hx.flat ht'
    have fl : ∀ p ∈ L, ∃ l : Leaf, p.1 = l.key ∧ (flatKind P w).is l p.2 = true ∧ p.2.scannable = true := fun p hp => (R.mem p hp).flat ((huni p hp).trans ht')
    have hel : ElemsOf (flatKind P w) es.toList := fun e he => by
      rw [R.rows] at he
      obtain ⟨p, hp, rfl⟩ := List.mem_map.mp he
      obtain ⟨l', e1, e2, e3⟩ := fl p hp
      exact ⟨⟨l', e2, by show p.1.hash w = l'.key.hash w; rw [e1]⟩, e3⟩
    have hsz : es.size = L.length := by rw [← Array.length_toList, R.rows, List.length_map]
    have hit : (∃ e ∈ es.toList, (flatKind P w).is l e.2 = true) ↔ k ∈ L.map (·.1) := by
      constructor
      · rintro ⟨e, he, hp⟩
        rw [R.rows] at he
        obtain ⟨p, hp', rfl⟩ := List.mem_map.mp he
        obtain ⟨l', e1, e2, _⟩ := fl p hp'
        have := (flatKind P w).inj _ _ _ e2 hp
        exact List.mem_map.mpr ⟨p, hp', by rw [e1, this]; exact el.symm⟩
      · intro hm
        obtain ⟨p, hp, e⟩ := List.mem_map.mp hm
        obtain ⟨l', e1, e2, _⟩ := fl p hp
        have el : k = l.key := el
        have : l' = l := Leaf.key_inj (by rw [← e1, ← el]; exact e)
        rw [this] at e2
        exact ⟨(p.1.hash w, p.2), by rw [R.rows]; exact List.mem_map.mpr ⟨p, hp, rfl⟩, e2⟩
    have ehash : k.hash w = (flatKind P w).hash l := by rw [show k = l.key from el]; rfl
    rw [ehash]
    refine flat_put R.raw hel il sl (by rw [hsz]; show L.length + 1 < 4096; omega) (fun z => ?_) fun hn h' es' ep' t' sb R' pm => ?_
    · exact hQ false s.heap L es ep t (Heap.SameBut.refl a s.heap) R (fun _ => rfl) fun y => absurd (hit.mp z) y
    · have hm : k ∉ L.map (·.1) := fun z => hn (hit.mpr z)
      rw [R.rows] at pm
      have pm2 : es'.toList.Perm ((L ++ [(k, x)]).map fun p => (p.1.hash w, p.2)) := by
        rw [List.map_append]
        rw [← ehash] at pm
        exact pm
      obtain ⟨L', p1, p2⟩ := perm_map pm2
      have p3 : L'.Perm ((k, x) :: L) := p1.trans (List.perm_append_singleton (k, x) L)
      refine hQ true h' L' es' ep' t' sb ⟨R', p2, ?_, fun p hp => ?_, ?_, fun z => ?_⟩ (fun z => absurd z hm) fun _ => p3
      · exact (p3.map (·.1)).nodup_iff.mpr (by rw [List.map_cons]; exact List.nodup_cons.mpr ⟨hm, R.nd⟩)
      · rcases List.mem_cons.mp (p3.mem_iff.mp hp) with e | hp
        · rw [e]; exact hx.same ho hd sb
        · exact (R.mem p hp).same ho hd sb
      · rw [p3.length_eq, List.length_cons]; omega
      · exact absurd (z (k, x) (p3.mem_iff.mpr List.mem_cons_self)) ht
theorem setK_fresh {h : Heap} (ho : h.get? a = some { cls := .type "set", dict := none, data := .set #[] 0 (.fresh 0 0 (!w.params.followText "set-order")) }) : SetK P w h a [] #[] 0 (.fresh 0 0 (!w.params.followText "set-order")) where
  raw := ⟨⟨_, ho, ⟨rfl, rfl, rfl⟩, rfl⟩, rfl, List.Pairwise.nil, by
    show _ ∨ (!w.params.followText "set-order") = true
    cases w.params.followText "set-order"
    · exact .inr rfl
    · exact .inl rfl⟩
  rows := rfl
  nd := List.nodup_nil
  mem := fun p hp => (by cases hp)
  lt := by show 0 < 4000; decide
  tab := fun _ => ⟨⟨List.Pairwise.nil, rfl, rfl, .inl rfl, fun x hx => (by cases hx), fun i h j hi => (by simp at hi)⟩, by show 0 * 5 < 7 * 3; decide, by show 0 < 64; decide⟩
def kPut (L : List KV1) (p : KV1) : List KV1 := if p.1 ∈ L.map (·.1) then L else L ++ [p]
def kAll (ks : List KV1) : List KV1 := ks.foldl kPut []
theorem kPut_len (L : List KV1) (p : KV1) : (kPut L p).length ≤ L.length + 1 := by
  unfold kPut
  split
  · omega
  · rw [List.length_append]; exact Nat.le_refl _
theorem kAll_snoc (ks : List KV1) (p : KV1) : kAll (ks ++ [p]) = kPut (kAll ks) p := by
  unfold kAll
  rw [List.foldl_append]; rfl
theorem kAll_sub : ∀ (n : Nat) (ks : List KV1), ks.length = n → (∀ p ∈ kAll ks, p ∈ ks) ∧ (kAll ks).length ≤ ks.length
  | 0, [], _ => ⟨fun p hp => (by cases hp), Nat.le_refl _⟩
  | n + 1, ks, h => by
    obtain ⟨q, r, e⟩ : ∃ q r, ks = q ++ [r] := by
      have hne : ks ≠ [] := fun e => by rw [e] at h; cases h
      exact ⟨ks.dropLast, ks.getLast hne, (List.dropLast_concat_getLast hne).symm⟩
    subst e
    rw [List.length_append] at h
    obtain ⟨h1, h2⟩ := kAll_sub n q (by simpa using h)
    rw [kAll_snoc]
    refine ⟨fun p hp => ?_, ?_⟩
    · unfold kPut at hp
      split at hp
      · exact List.mem_append_left _ (h1 p hp)
      · rcases List.mem_append.mp hp with z | z
        · exact List.mem_append_left _ (h1 p z)
        · exact List.mem_append_right _ z
    · have := kPut_len (kAll q) r
      rw [List.length_append]
      show (kPut (kAll q) r).length ≤ q.length + 1
      omega
/-- set.update's turns, over any walk -/
theorem upd_loop {I : Addr} {fp wr : List Addr} {G : Array GenState → Array GenState → Prop} {n : Nat} {Pv : Nat → Value → Prop} {St : Nat → Shared → Prop} {R : Result → Shared → Prop} (W : WalksS P w A.in1 I fp wr G n Pv St) (S : Addr) (hS : S ∉ fp) (ks : List KV1) (hn : n = ks.length)
    (hz : ks.length < 3990) (hzt : (∃ p ∈ ks, isTupK p.1 = true) → ks.length < 62) (huni : ∀ p ∈ ks, ∀ q ∈ ks, isTupK p.1 = isTupK q.1) (hval : ∀ i v, Pv i v → ∃ p, ks[i]? = some p ∧ v = p.2) (h0 : Heap) (hk : ∀ p ∈ ks, KeyV P w h0 p) (hS0 : h0.get? S = none) (hw0 : ∀ b ∈ wr, h0.get? b = none) (hu : A.in1.units + 64 < cLine) :
    ∀ (k i : Nat) (s : Shared), n - i = k → i ≤ n → St i s → (∀ b o, h0.get? b = some o → s.heap.get? b = some o) → (∃ L es ep t, SetK P w s.heap S L es ep t ∧ L.Perm (kAll (ks.take i))) →
      (∀ s' L es ep t, Moved (S :: wr) G s s' → SetK P w s'.heap S L es ep t → L.Perm (kAll ks) → (∀ b o, h0.get? b = some o → s'.heap.get? b = some o) → R (.ok (.ret .none)) s') →
      codeAny (model P w) A (.builtin "set.update.loop" ⟨[.ref S, .ref I], []⟩) R s := by
  have hSw : S ∉ wr := fun h => hS (W.sub _ h)
  have sub : ∀ b ∈ wr, b ∈ S :: wr := fun b hb => List.mem_cons_of_mem _ hb
  have kept : ∀ {s s' : Shared}, Moved wr G s s' → (∀ b o, h0.get? b = some o → s.heap.get? b = some o) → ∀ b o, h0.get? b = some o → s'.heap.get? b = some o := fun hm hkp b o e => hm.heap b o (fun hb => by rw [hw0 b hb] at e; cases e) (hkp b o e)
  have inKs : ∀ {i : Nat} {L : List KV1}, L.Perm (kAll (ks.take i)) → ∀ p ∈ L, p ∈ ks := fun {i L} pm p hp => List.mem_of_mem_take ((kAll_sub _ _ rfl).1 p (pm.mem_iff.mp hp))
  have again : ∀ {s s' : Shared} {i : Nat} {L : List KV1} {es : Array (Int × Value)} {ep : Nat} {t : SetTable}, Moved wr G s s' → SetK P w s.heap S L es ep t → L.Perm (kAll (ks.take i)) → (∀ b o, h0.get? b = some o → s'.heap.get? b = some o) → SetK P w s'.heap S L es ep t := fun {s s' i L es ep t} hm hK pm hkp =>
    let ⟨o, ho, r⟩ := hK.raw.ob
    ⟨⟨⟨o, hm.heap S o hSw ho, r⟩, hK.raw.fits, hK.raw.ris, hK.raw.led⟩, hK.rows, hK.nd, fun p hp => (hk p (inKs pm p hp)).at fun b o _ _ e _ => hkp b o e, hK.lt, hK.tab⟩
  intro k
  induction k with
  | zero =>
    intro i s e1 hi hst hkp ⟨L, es, ep, t, hK, pm⟩ hR
    have hin : i = n := by omega
    subst hin
    refine codeAny_builtin F.entry_set_update_loop ?_
    rw [Around.under_plainId F.plain_set_update_loop _]
    show wpAny _ A.in1 (pyNext (.ref I) >>= _) _ _ s
    refine wpAny_bind (W.done s _ _ hst fun s' hm => ?_)
    show wpAny _ A.in1 (ret Value.none) _ _ s'
    exact wpAny_pure (hR s' L es ep t (hm.mono sub) (again hm hK pm (kept hm hkp)) (by rw [hn, List.take_length] at pm; exact pm) (kept hm hkp))
  | succ k ih =>
    intro i s e1 hi hst hkp ⟨L, es, ep, t, hK, pm⟩ hR
    have hlt : i < n := by omega
    refine codeAny_builtin F.entry_set_update_loop ?_
    rw [Around.under_plainId F.plain_set_update_loop _]
    show wpAny _ A.in1 (pyNext (.ref I) >>= _) _ _ s
    refine wpAny_bind (W.item i s _ _ hlt hst fun v s' hP hst' hm => ?_)
    obtain ⟨p, hp, rfl⟩ := hval i v hP
    have hkp' := kept hm hkp
    have hK' := again hm hK pm hkp'
    have hpm : p ∈ ks := List.mem_of_getElem? hp
    have hx : KeyV P w s'.heap p := (hk p hpm).at fun b o _ _ e _ => hkp' b o e
    have hLen : L.length ≤ i := by
      rw [pm.length_eq]
      have := (kAll_sub _ (ks.take i) rfl).2
      rw [List.length_take] at this
      omega
    show wpAny _ A.in1 (holding [p.2] (setAdd S p.2) >>= _) _ _ s'
    refine wpAny_bind (wpAny_holding ?_)
    unfold setAdd
    refine wpAny_holding (wpAny_bind (pyHash_key p.1 p.2 A.in1 s' _ hx.is (by have := hx.dp; omega) ?_))
    refine raw_put (s := { s' with toks := s'.toks + p.1.draws }) (k := p.1) (x := p.2) hK' hx (fun q hq => huni q (inKs pm q hq) p hpm) ?_ hu fun b h' L' es' ep' t' sb hK2 hin hout => ?_
    · split
      · rename_i z
        have := hzt ⟨p, hpm, z⟩
        omega
      · omega
    have et : ks.take (i + 1) = ks.take i ++ [p] := by rw [List.take_succ, hp]; rfl
    have pm' : L'.Perm (kAll (ks.take (i + 1))) := by
      rw [et, kAll_snoc]
      unfold kPut
      have hmem : p.1 ∈ L.map (·.1) ↔ p.1 ∈ (kAll (ks.take i)).map (·.1) := (pm.map (·.1)).mem_iff
      by_cases z : p.1 ∈ L.map (·.1)
      · rw [if_pos (hmem.mp z), hin z]; exact pm
      · rw [if_neg fun y => z (hmem.mpr y)]
        exact (hout z).trans ((pm.cons p).trans (List.perm_append_singleton p _).symm)
    have hkp2 : ∀ b o, h0.get? b = some o → h'.get? b = some o := fun b o e => (sb.2 b (fun z => by rw [z, hS0] at e; cases e)).trans (hkp' b o e)
    refine wpAny_pure ⟨plainId_quiet F.plain_set_update_loop _, ih (i + 1) _ (by omega) hlt (W.frame _ s' _ _ hst' (Nat.le_add_right _ _) fun b hb o e => ?_) hkp2 ⟨L', es', ep', t', hK2, pm'⟩ fun s'' L2 es2 ep2 t2 hm'' hK'' pm'' hkp'' => ?_⟩
    · rw [sb.2 b (fun z : b = S => hS (by rw [← z]; exact hb))]; exact e
    · refine hR s'' L2 es2 ep2 t2 (Moved.trans W.gtrans ((hm.mono sub).then_heap (Nat.le_add_right _ _) fun b o hb e => ?_) hm'') hK'' pm'' hkp''
      rw [sb.2 b (fun z : b = S => hb (by rw [z]; exact List.mem_cons_self))]; exact e
end
end Mini

set_option Elab.async false
set_option linter.all false
set_option maxRecDepth 100000
set_option maxHeartbeats 4000000
namespace Mini
open PySem PySem.Spec PyProof.Rows L2
section
variable {P : Program} {w : World} {A : Around} {E : Value → Shared → Prop} {s : Shared}
abbrev newSetObj (w : World) : Obj := { cls := .type "set", dict := none, data := .set #[] 0 (.fresh 0 0 (!w.params.followText "set-order")) }
/-- set(x): what is made of the new set by set.__init__ -/
theorem set_call {x : Value} {Q : Value → Shared → Prop} {R : Shared → Prop}
    (hinit : wpAny (model P w) A.in1.in1 (Builtin.«set.__init__» ⟨[.ref s.heap.objs.size, x], []⟩) (fun f s₂ => f = .done (.ret .none) ∧ R s₂) E { s with heap := s.heap.push (newSetObj w) })
    (h : ∀ s₂, R s₂ → Q (.ref s.heap.objs.size) s₂) : wpAny (model P w) A (call (.type "set") [x]) Q E s := by
  obtain ⟨c, tl, hmro⟩ := F.called_set.mro
  have hmade := F.called_set.made
  have hsub := F.called_set.sub
  refine wpAny_call (codeAny_of_tree ?_)
  show wpAny _ _ (callAny (.type "set") _) _ _ _
  refine wpAny_pure ⟨Code.quiet_builtin _ (by decide +kernel), codeAny_builtin F.entry_type_call ?_⟩
  rw [Around.under_plain (weight_type_call_type "set" [x] []) rfl]
  have h1 := F.called_set.notType
  have h2 := F.called_set.canCreate
  have hct := F.typeCall_set_1 x
  repeat (any_goals (first | assumption | wp_step))
  refine codeAny_mono (code_set_led1 x (E := E) (Q₁ := fun obj s₁ => obj = .ref s.heap.objs.size ∧ s₁ = { s with heap := s.heap.push (newSetObj w) }) ⟨rfl, rfl⟩) fun r s₁ hr => ?_
  cases r with
  | error e => exact hr
  | ok fl =>
    cases fl with
    | ret obj =>
      obtain ⟨rfl, rfl⟩ := hr
      have hT : Shared.TypeIs { s with heap := s.heap.push (newSetObj w) } (.ref s.heap.objs.size) "set" := ⟨_, Heap.get?_push_size _ rfl, rfl⟩
      have hli := F.called_set.init.lookup
      have hbi := F.called_set.init.bind (.ref s.heap.objs.size)
      repeat (any_goals (first | assumption | wp_step))
      refine codeAny_mono (codeAny_call_builtin (R := wants (fun r s₂ => r = .none ∧ R s₂) E) F.called_set.init.plain F.entry_set_init (check_set_init_1 hT ?_)) fun r₂ s₂ hr₂ => ?_
      · refine wpAny_mono hinit (fun f s₂ hf => ?_) fun _ _ z => z
        obtain ⟨rfl, hR⟩ := hf
        exact ⟨rfl, hR⟩
      · cases r₂ with
        | error e => exact hr₂
        | ok fl₂ =>
          cases fl₂ with
          | ret r =>
            obtain ⟨rfl, hR⟩ := hr₂
            repeat (any_goals (first | assumption | wp_step))
            exact h _ hR
          | _ => exact hr₂.elim
    | _ => exact hr.elim
theorem set_init {o : Obj} {l : Addr} {x : Value} {T : String} {S I : Addr} {s1 s2 : Shared} {R : Shared → Prop} (ho : s1.heap.get? l = some o) (hc : o.cls = .type T) (hx : x = .ref l) (hS : s1.heap.get? S = some (newSetObj w)) (h1 : isSubtype (.type T) (.type "set") = pure false) (h2 : isSubtype (.type T) (.type "frozenset") = pure false) (hne : (Value.type T == Value.type "dict") = false)
    (hit : ∀ Q : Value → Shared → Prop, Q (.ref I) s2 → wpAny (model P w) A (pyIter x) Q E s1) (hl : ∀ R' : Result → Shared → Prop, (∀ s3, R s3 → R' (.ok (.ret .none)) s3) → codeAny (model P w) A (.builtin "set.update.loop" ⟨[.ref S, .ref I], []⟩) R' s2) :
    wpAny (model P w) A (Builtin.«set.__init__» ⟨[.ref S, x], []⟩) (fun f s₂ => f = .done (.ret .none) ∧ R s₂) E s1 := by
  subst hx
  obtain ⟨ocls, odict, odata, oslots⟩ := o
  simp only at hc
  subst hc
  have hT : s1.TypeIs (.ref S) "set" := ⟨_, hS, rfl⟩
  unfold Builtin.«set.__init__» noKeywords Builtin.Frozenset.updateFrom
  generalize hPI : pyIter = PI
  wp_walk
  subst hPI
  refine hit _ (wpAny_bind (wpAny_runValue (hl _ fun s3 r => ?_)))
  exact wpAny_pure (wpAny_pure ⟨rfl, r⟩)
/-- what set(x) asks of the keys of x -/
structure KsOk (P : Program) (w : World) (h : Heap) (ks : List KV1) : Prop where
  z : ks.length < 3990
  zt : (∃ p ∈ ks, isTupK p.1 = true) → ks.length < 62
  uni : ∀ p ∈ ks, ∀ q ∈ ks, isTupK p.1 = isTupK q.1
  key : ∀ p ∈ ks, KeyV P w h p
theorem none_above {h : Heap} {b : Addr} (hb : h.objs.size ≤ b) : h.get? b = none := by
  cases q : h.get? b with
  | none => rfl
  | some o => exact absurd (Nat.lt_of_lt_of_le (Heap.lt_size q) hb) (Nat.lt_irrefl _)
theorem set_made {l : Addr} {T : String} {o io : Obj} {items : Array Value} {St : Nat → Heap → Prop} (ks : List KV1) {Q : Value → Shared → Prop} (ho : s.heap.get? l = some o) (hc : o.cls = .type T)
    (h1 : isSubtype (.type T) (.type "set") = pure false) (h2 : isSubtype (.type T) (.type "frozenset") = pure false) (hne : (Value.type T == Value.type "dict") = false)
    (hit : ∀ (A : Around) (s' : Shared) (Q : Value → Shared → Prop), s'.heap = s.heap.push (newSetObj w) → Q (.ref s'.heap.objs.size) { s' with heap := s'.heap.push io } → wpAny (model P w) A (pyIter (.ref l)) Q E s')
    (W : ∀ A : Around, A.handled = none → Walks P w A (s.heap.objs.size + 1) [s.heap.objs.size + 1, l] [s.heap.objs.size + 1] items.size (fun i v => items[i]? = some v) (fun i h => St i h))
    (hst : St 0 ((s.heap.push (newSetObj w)).push io))
    (hh : A.handled = none) (hits : items.toList = ks.map (·.2)) (K : KsOk P w s.heap ks) (hu : A.units + 70 < cLine)
    (h : ∀ (h' : Heap) (tk : Nat) L es ep t, SetK P w h' s.heap.objs.size L es ep t → L.Perm (kAll ks) → (∀ b o, s.heap.get? b = some o → h'.get? b = some o) → Q (.ref s.heap.objs.size) { s with heap := h', toks := tk }) :
    wpAny (model P w) A (call (.type "set") [.ref l]) Q E s := by
  have hsz : items.size = ks.length := by
    have q := congrArg List.length hits
    rw [Array.length_toList, List.length_map] at q
    exact q
  have hlS : l < s.heap.objs.size := Heap.lt_size ho
  have e1 : (s.heap.push (newSetObj w)).objs.size = s.heap.objs.size + 1 := Heap.size_push ..
  refine set_call (R := fun s₂ => ∃ h' tk L es ep t, s₂ = { s with heap := h', toks := tk } ∧ SetK P w h' s.heap.objs.size L es ep t ∧ L.Perm (kAll ks) ∧ ∀ b o, s.heap.get? b = some o → h'.get? b = some o)
    (set_init (I := s.heap.objs.size + 1) (s2 := { s with heap := (s.heap.push (newSetObj w)).push io }) (Heap.get?_push_of_some _ ho) hc rfl (Heap.get?_push_size _ rfl) h1 h2 hne (fun Q' hq => ?_) fun R' hR' => ?_) fun s₂ ⟨h', tk, L, es, ep, t, e, hK, pm, hk⟩ => ?_
  · refine hit _ _ _ rfl ?_
    rw [← e1] at hq
    exact hq
  · have hw := W A.in1.in1.in1 (by simp [hh])
    refine upd_loop (A := A.in1.in1) hw.toS s.heap.objs.size (by
        simp only [List.mem_cons, List.not_mem_nil, or_false, not_or]
        exact ⟨Nat.ne_of_lt (Nat.lt_succ_self _), Nat.ne_of_gt hlS⟩) ks hsz K.z K.zt K.uni (fun i v hv => ?_) s.heap K.key (none_above (Nat.le_refl _)) (fun b hb => none_above (by rw [List.mem_singleton.mp hb]; omega)) (by simp; omega)
      (items.size - 0) 0 _ rfl (Nat.zero_le _) hst (fun b o e => Heap.get?_push_of_some _ (Heap.get?_push_of_some _ e)) ⟨[], #[], 0, _, setK_fresh (Heap.get?_push_of_some _ (Heap.get?_push_size _ rfl)), ?_⟩ fun s' L es ep t hm hK pm hkp => ?_
    · have q : items.toList[i]? = some v := by rw [Array.getElem?_toList]; exact hv
      rw [hits, List.getElem?_map] at q
      cases hq : ks[i]? with
      | none => rw [hq] at q; cases q
      | some p => rw [hq] at q; exact ⟨p, rfl, (Option.some.inj q).symm⟩
    · rw [List.take_zero]; exact List.Perm.refl _
    · obtain ⟨h', g2, d', tk', os'⟩ := s'
      have eg : g2 = s.gens := hm.gens
      have ed : d' = s.drawn := hm.drawn
      have eo : os' = s.os := hm.os
      subst eg; subst ed; subst eo
      exact hR' _ ⟨h', tk', L, es, ep, t, rfl, hK, pm, hkp⟩
  · rw [e]; exact h h' tk L es ep t hK pm hk
theorem set_list {l : Addr} {items : Array Value} (ks : List KV1) {Q : Value → Shared → Prop} (hl : s.heap.IsList l items) (hh : A.handled = none) (hits : items.toList = ks.map (·.2)) (K : KsOk P w s.heap ks) (hu : A.units + 70 < cLine)
    (h : ∀ (h' : Heap) (tk : Nat) L es ep t, SetK P w h' s.heap.objs.size L es ep t → L.Perm (kAll ks) → (∀ b o, s.heap.get? b = some o → h'.get? b = some o) → Q (.ref s.heap.objs.size) { s with heap := h', toks := tk }) :
    wpAny (model P w) A (call (.type "set") [.ref l]) Q E s := by
  obtain ⟨o, ho, hc, n, hd⟩ := id hl
  have e1 : (s.heap.push (newSetObj w)).objs.size = s.heap.objs.size + 1 := Heap.size_push ..
  have hlS : l < s.heap.objs.size := Heap.lt_size ho
  refine set_made (St := fun i h => h.IsListIter (s.heap.objs.size + 1) l i ∧ h.IsList l items) (io := { cls := .type "list_iterator", data := .fields #[.ref l, .int 0 0] }) ks ho hc F.sub_list_set F.sub_list_frozenset (by decide) (fun A s' Q' e hq => ?_) (fun A hA => Walks.list hA _ l (Nat.ne_of_lt (Nat.lt_succ_of_lt hlS)) items) ?_ hh hits K hu h
  · exact wpAny_pyIter_list (by rw [e]; exact hl.push _) hq
  · exact ⟨⟨_, by rw [← e1]; exact Heap.get?_push_size _ rfl, rfl, rfl⟩, (hl.push _).push _⟩
theorem set_tuple {l : Addr} {items : Array Value} (ks : List KV1) {Q : Value → Shared → Prop} (hl : s.heap.IsTuple l items) (hh : A.handled = none) (hits : items.toList = ks.map (·.2)) (K : KsOk P w s.heap ks) (hu : A.units + 70 < cLine)
    (h : ∀ (h' : Heap) (tk : Nat) L es ep t, SetK P w h' s.heap.objs.size L es ep t → L.Perm (kAll ks) → (∀ b o, s.heap.get? b = some o → h'.get? b = some o) → Q (.ref s.heap.objs.size) { s with heap := h', toks := tk }) :
    wpAny (model P w) A (call (.type "set") [.ref l]) Q E s := by
  obtain ⟨o, ho, hc, n, hd⟩ := id hl
  have e1 : (s.heap.push (newSetObj w)).objs.size = s.heap.objs.size + 1 := Heap.size_push ..
  have hlS : l < s.heap.objs.size := Heap.lt_size ho
  have up : ∀ {h : Heap} (ob : Obj), h.IsTuple l items → (h.push ob).IsTuple l items := fun ob x => x.at fun _ e => Heap.get?_push_of_some _ e
  refine set_made (St := fun i h => h.IsTupleIter (s.heap.objs.size + 1) l i ∧ h.IsTuple l items) (io := { cls := .type "tuple_iterator", data := .fields #[.ref l, .int 0 0] }) ks ho hc F.sub_tuple_set F.sub_tuple_frozenset (by decide) (fun A s' Q' e hq => ?_) (fun A hA => Walks.tuple hA _ l (Nat.ne_of_lt (Nat.lt_succ_of_lt hlS)) items) ?_ hh hits K hu h
  · exact wpAny_pyIter_tuple (by rw [e]; exact up _ hl) hq
  · exact ⟨⟨_, by rw [← e1]; exact Heap.get?_push_size _ rfl, rfl, rfl⟩, up _ (up _ hl)⟩
end
end Mini

set_option Elab.async false
set_option linter.all false
set_option maxRecDepth 100000
set_option maxHeartbeats 4000000
namespace Mini
open PySem PySem.Spec PyProof.Rows L2
theorem isTupK_of {d : PyData} (h : keyOk d = true) : isTupK (keyOf d) = isTupD d := by
  have e := (keyOk_some h).1
  cases d with
  | none => rfl
  | bool b => cases h
  | int i => rfl
  | str x => rfl
  | list xs => cases e
  | dict xs => cases e
  | tuple xs =>
    obtain ⟨ks, e1, e2⟩ := Option.map_eq_some_iff.mp (show (toKeys xs).map NestedKey.tup = some (keyOf (.tuple xs)) from e)
    rw [← e2]; rfl
def KRel (w : World) (K : PySem.W.Frag) (Hf : Hp) (p : KV1) (d : PyData) : Prop := p.1 = keyOf d ∧ ∃ v, RelV v p.2 ∧ Rp w K Hf v d
section
variable {X : Cx} {pins : List (Addr × Obj)} {σ : L2.St} {H Hf : Hp} {s : Shared} {a : Addr} {xs ys : List PyData} {w : World} {K : PySem.W.Frag}
theorem keyV_of (I : Inv X pins σ H s) (sub : Same Hf H) {p : KV1} {d : PyData} (h : keyOk d = true) (r : KRel X.w X.K Hf p d) : KeyV X.prog X.w s.heap p := by
  obtain ⟨e, v, r1, r2⟩ := r
  have ht := isTupK_of h
  refine ⟨?_, ?_, fun z => ?_, fun z => ?_⟩
  · rw [e]; exact Rp.nested I d _ _ _ (keyOk_some h).1 (Rp.mono sub _ _ r2) r1
  · rw [e]; exact (keyOk_some h).2
  · rw [e, ht] at z
    obtain ⟨b, rfl⟩ := rp_ref_tup z r2
    exact ⟨b, r1⟩
  · rw [e, ht] at z
    have fk := flatKey_of h z
    refine ⟨leafOf d, ?_, flat_is fk r2 r1, scan_of fk r2 r1⟩
    rw [e]
    unfold keyOf
    rw [toKey_flat fk]; rfl
theorem krels_of : ∀ {vs : List V} {us : List Value} {ys : List PyData}, Vals vs us → RpAll w K Hf vs ys → ∃ ks : List KV1, us = ks.map (·.2) ∧ Paired (KRel w K Hf) ks ys
  | _, _, _, .nil, .nil => ⟨[], rfl, .nil⟩
  | _, u :: us, y :: ys, .cons r1 r2, .cons h1 h2 => by
    obtain ⟨ks, e, p⟩ := krels_of r2 h2
    exact ⟨(keyOf y, u) :: ks, by rw [List.map_cons, ← e], .cons ⟨rfl, _, r1, h1⟩ p⟩
theorem rel_put {L : List KV1} {p : KV1} {d : PyData} (hd : keyOk d = true) (hx : ∀ x ∈ xs, keyOk x = true) (r : KRel w K Hf p d) (h : Paired (KRel w K Hf) L xs) : Paired (KRel w K Hf) (kPut L p) (sPut xs d) := by
  have hm : (p.1 ∈ L.map (·.1)) ↔ sHas xs d = true := by
    rw [sHas_iff hd hx, r.1]
    have e : L.map (·.1) = xs.map keyOf := by
      clear hx
      induction h with
      | nil => rfl
      | cons h _ ih => rw [List.map_cons, List.map_cons, ih, h.1]
    rw [e]
  unfold kPut sPut
  by_cases z : p.1 ∈ L.map (·.1)
  · rw [if_pos z, if_pos (hm.mp z)]; exact h
  · rw [if_neg z, if_neg fun y => z (hm.mpr y)]; exact paired_app h (.cons r .nil)
theorem rel_all : ∀ {ks : List KV1} {ys : List PyData} {L : List KV1} {xs : List PyData}, Paired (KRel w K Hf) ks ys → (∀ y ∈ ys, keyOk y = true) → (∀ x ∈ xs, keyOk x = true) → Paired (KRel w K Hf) L xs → Paired (KRel w K Hf) (ks.foldl kPut L) (dedup xs ys)
  | _, _, L, xs, .nil, _, _, h => h
  | p :: ks, d :: ys, L, xs, .cons r t, hy, hx, h => by
    have hd := hy d List.mem_cons_self
    refine rel_all (L := kPut L p) (xs := sPut xs d) t (fun y z => hy y (List.mem_cons_of_mem _ z)) (fun x z => ?_) (rel_put hd hx r h)
    unfold sPut at z
    split at z
    · exact hx x z
    · rcases List.mem_append.mp z with z | z
      · exact hx x z
      · rw [List.mem_singleton.mp z]; exact hd
theorem dedup_ok : ∀ {ys xs : List PyData}, keysOk xs = true → (∀ y ∈ ys, keysWith xs y = true) → (∀ y ∈ ys, ∀ z ∈ ys, isTupD y = isTupD z) → keysOk (dedup xs ys) = true
  | [], xs, h, _, _ => h
  | d :: ys, xs, h, hw, hu => by
    have hd := hw d List.mem_cons_self
    refine dedup_ok (xs := sPut xs d) (sPut_ok h hd) (fun y hy => ?_) fun y hy z hz => hu y (List.mem_cons_of_mem _ hy) z (List.mem_cons_of_mem _ hz)
    have hy' := hw y (List.mem_cons_of_mem _ hy)
    obtain ⟨k1, k2⟩ := keysWith_of hy'
    unfold keysWith
    simp only [Bool.and_eq_true, List.all_eq_true, beq_iff_eq]
    refine ⟨k1, fun x hx => ?_⟩
    unfold sPut at hx
    split at hx
    · exact k2 x hx
    · rcases List.mem_append.mp hx with z | z
      · exact k2 x z
      · rw [List.mem_singleton.mp z]; exact hu d List.mem_cons_self y (List.mem_cons_of_mem _ hy)
theorem setOk_of (h : setOk ys = true) : (∀ y ∈ ys, keyOk y = true) ∧ (∀ y ∈ ys, ∀ z ∈ ys, isTupD y = isTupD z) ∧ ys.length < 3990 ∧ ((∃ y ∈ ys, isTupD y = true) → ys.length < 62) := by
  unfold setOk at h
  rw [Bool.and_eq_true, List.all_eq_true] at h
  obtain ⟨h1, h2⟩ := h
  refine ⟨fun y hy => (keysWith_of (h1 y hy)).1, fun y hy z hz => (keysWith_of (h1 z hz)).2 y hy, ?_, fun ⟨y, hy, e⟩ => ?_⟩
  · split at h2
    · have := of_decide_eq_true h2; omega
    · exact of_decide_eq_true h2
  · rw [if_pos (List.any_eq_true.mpr ⟨y, hy, e⟩)] at h2
    exact of_decide_eq_true h2
def rSetM (X : Cx) : List V → Hp → VK → Prop := fun zs H Q => ∃ a vs ys Hf, zs = [.ref a] ∧ (H a = some (.lst vs) ∨ SqT X.K H a vs) ∧ Same Hf H ∧ RpAll X.w X.K Hf vs ys ∧ setOk ys = true ∧ ∀ p o, H p = none → SetAt X.w X.K Hf (upd H p (exO p o)) p (dedup [] ys) → Q (.ref p) (upd H p (exO p o))
theorem call_setM (hc : X.calm = true) (hu : X.A.units + 70 < cLine) : CallR X (.type "set") (rSetM X) := by
  intro pins s σ H zs us Q I r h
  obtain ⟨a, vs, ys, Hf, rfl, h1, sub, rp, so, q⟩ := h
  obtain ⟨hk, huni, hz, hzt⟩ := setOk_of so
  rw [Vals.ref1 r]
  have fin : ∀ {ks : List KV1}, Paired (KRel X.w X.K Hf) ks ys → ∀ (h' : Heap) (tk : Nat) L es ep t, SetK X.prog X.w h' s.heap.objs.size L es ep t → L.Perm (kAll ks) → (∀ b o, s.heap.get? b = some o → h'.get? b = some o) → EP X pins σ Q (.ref s.heap.objs.size) { s with heap := h', toks := tk } := fun {ks} pr h' tk L es ep t hK pm kp => by
    obtain ⟨o, ho, hex, hd⟩ := hK.raw.ob
    have hn : H s.heap.objs.size = none := I.hok.fresh (Nat.le_refl _)
    refine ⟨.ref s.heap.objs.size, upd H s.heap.objs.size (exO s.heap.objs.size o), I.laid (t' := tk) kp (Nat.le_refl _) (exO_ok ho), rfl, q _ o hn ?_⟩
    have pa : Paired (KRel X.w X.K Hf) (kAll ks) (dedup [] ys) := rel_all pr hk (fun x hx => by cases hx) .nil
    obtain ⟨zs, p1, p2⟩ := paired_perm pm pa
    have hok : keysOk (dedup [] ys) = true := dedup_ok rfl (fun y hy => by
      show (keyOk y && true) = true
      rw [hk y hy]; rfl) huni
    have hall := keysOk_all hok
    have hlen : L.length = (dedup [] ys).length := by rw [Paired.length p2, p1.length_eq]
    refine ⟨o, es, ep, t, zs, upd_same, hex, hd, ?_, p1, hK.raw.fits, hK.raw.ris, hK.raw.led, hok, by rw [← hlen]; exact hK.lt, fun z => ?_⟩
    · rw [hK.rows]
      clear hlen pa hK ho hd pm
      have hzs : ∀ y ∈ zs, keyOk y = true := fun y hy => hall y (p1.mem_iff.mp hy)
      clear p1
      induction p2 with
      | nil => exact .nil
      | @cons p d L zs r _ ih =>
        refine .cons ?_ (ih fun y hy => hzs y (List.mem_cons_of_mem _ hy))
        obtain ⟨e, v, r1, r2⟩ := r
        refine ⟨v, r1, r2, ?_⟩
        show p.1.hash X.w = hashD X.w d
        unfold hashD
        rw [(keyOk_some (hzs d List.mem_cons_self)).1, e]
    · have z2 : ∀ p ∈ L, isTupK p.1 = true := fun p hp => by
        obtain ⟨d, hd', r⟩ := paired_mem p2 p hp
        rw [r.1, isTupK_of (hall d (p1.mem_iff.mp hd'))]
        exact List.all_eq_true.mp z d (p1.mem_iff.mp hd')
      obtain ⟨t1, t2, t3⟩ := hK.tab z2
      refine ⟨?_, by rw [← hlen]; exact t2, by rw [← hlen]; exact t3⟩
      rw [hK.rows, List.map_map]
      exact t1
  have kok : ∀ {ks : List KV1}, Paired (KRel X.w X.K Hf) ks ys → KsOk X.prog X.w s.heap ks := fun {ks} pr => by
    have hl := Paired.length pr
    refine ⟨by omega, fun ⟨p, hp, e⟩ => ?_, fun p hp q hq => ?_, fun p hp => ?_⟩
    · obtain ⟨d, hd, r⟩ := paired_mem pr p hp
      rw [r.1, isTupK_of (hk d hd)] at e
      have := hzt ⟨d, hd, e⟩
      omega
    · obtain ⟨d, hd, r⟩ := paired_mem pr p hp
      obtain ⟨e, he, r'⟩ := paired_mem pr q hq
      rw [r.1, r'.1, isTupK_of (hk d hd), isTupK_of (hk e he)]
      exact huni d hd e he
    · obtain ⟨d, hd, r⟩ := paired_mem pr p hp
      exact keyV_of I sub (hk d hd) r
  rcases h1 with h1 | h1
  · obtain ⟨its, rv, pl, _⟩ := I.list (.inl (.inl h1))
    obtain ⟨ks, e, pr⟩ := krels_of rv rp
    exact set_list ks pl.isList (I.ok.hd hc) (by simpa using e) (kok pr) hu (fin pr)
  · obtain ⟨its, rv, pl, _⟩ := I.tuple h1
    obtain ⟨ks, e, pr⟩ := krels_of rv rp
    exact set_tuple ks pl (I.ok.hd hc) (by simpa using e) (kok pr) hu (fin pr)
end
end Mini

set_option Elab.async false
set_option linter.all false
set_option maxRecDepth 100000
set_option maxHeartbeats 4000000
namespace Mini
open PySem PySem.Spec PyProof.Rows L2
/-! ### sorting data: one order alone -/
mutual
theorem toks_inj : ∀ (x y : PyData) (l m : List (Int ⊕ List Nat)), W.alike x y = true → W.keyToks x ++ l = W.keyToks y ++ m → x = y ∧ l = m
  | .none, y, l, m, h, e => by
    cases y with
    | none => exact ⟨rfl, by simpa [W.keyToks] using e⟩
    | _ => simp [W.alike] at h
  | .bool a, y, l, m, h, e => by
    cases y with
    | bool b =>
      simp only [W.keyToks, List.singleton_append, List.cons.injEq, Sum.inl.injEq] at e
      refine ⟨?_, e.2⟩
      cases a <;> cases b <;> first | rfl | (exact absurd e.1 (by decide))
    | _ => simp [W.alike] at h
  | .int a, y, l, m, h, e => by
    cases y with
    | int b =>
      simp only [W.keyToks, List.singleton_append, List.cons.injEq, Sum.inl.injEq] at e
      exact ⟨by rw [e.1], e.2⟩
    | _ => simp [W.alike] at h
  | .str a, y, l, m, h, e => by
    cases y with
    | str b =>
      simp only [W.keyToks, List.singleton_append, List.cons.injEq, Sum.inr.injEq] at e
      exact ⟨by rw [W.str_of_cps e.1], e.2⟩
    | _ => simp [W.alike] at h
  | .list xs, y, l, m, h, e => by
    cases y with
    | list ys =>
      simp only [W.keyToks] at e
      simp only [W.alike] at h
      obtain ⟨e1, e2⟩ := toksAll_inj xs ys l m h e
      exact ⟨by rw [e1], e2⟩
    | _ => simp [W.alike] at h
  | .tuple xs, y, l, m, h, e => by
    cases y with
    | tuple ys =>
      simp only [W.keyToks] at e
      simp only [W.alike] at h
      obtain ⟨e1, e2⟩ := toksAll_inj xs ys l m h e
      exact ⟨by rw [e1], e2⟩
    | _ => simp [W.alike] at h
  | .dict xs, y, l, m, h, e => by cases y <;> simp [W.alike] at h
theorem toksAll_inj : ∀ (xs ys : List PyData) (l m : List (Int ⊕ List Nat)), W.alikeAll xs ys = true → W.keyToksAll xs ++ l = W.keyToksAll ys ++ m → xs = ys ∧ l = m
  | [], [], l, m, _, e => by simpa [W.keyToksAll] using e
  | [], y :: ys, l, m, _, e => by simp [W.keyToksAll] at e
  | x :: xs, [], l, m, _, e => by simp [W.keyToksAll] at e
  | x :: xs, y :: ys, l, m, h, e => by
    simp only [W.keyToksAll, List.cons_append, List.cons.injEq, List.append_assoc] at e
    obtain ⟨h1, h2⟩ := W.alike_all_cons h
    obtain ⟨e1, e2⟩ := toks_inj x y _ _ h1 e.2
    obtain ⟨e3, e4⟩ := toksAll_inj xs ys l m h2 e2
    exact ⟨by rw [e1, e3], e4⟩
end
theorem le_eq (x y : PyData) : W.dataLe false id x y = !W.dataLt y x := rfl
theorem le_anti {x y : PyData} (ha : W.alike x y = true) (h1 : W.dataLe false id x y = true) (h2 : W.dataLe false id y x = true) : x = y := by
  rw [le_eq] at h1 h2
  have e := PyProof.Rows.lex_total (O := itemOrd) (W.keyToks x) (W.keyToks y) (by simpa [W.dataLt] using h2) (by simpa [W.dataLt] using h1)
  exact (toks_inj x y [] [] ha (by rw [List.append_nil, List.append_nil]; exact e)).1
theorem le_trans (x y z : PyData) (h1 : W.dataLe false id x y = true) (h2 : W.dataLe false id y z = true) : W.dataLe false id x z = true := by
  rw [le_eq] at h1 h2 ⊢
  cases e : W.dataLt z x with
  | false => rfl
  | true =>
    rcases PyProof.Rows.lex_negTrans (O := itemOrd) (W.keyToks z) (W.keyToks y) (W.keyToks x) e with q | q
    · rw [show W.dataLt z y = true from q] at h2; cases h2
    · rw [show W.dataLt y x = true from q] at h1; cases h1
theorem le_total (x y : PyData) : (W.dataLe false id x y || W.dataLe false id y x) = true := by
  rw [le_eq, le_eq]
  cases e : W.dataLt y x with
  | false => rfl
  | true =>
    cases e2 : W.dataLt x y with
    | false => rfl
    | true =>
      have := PyProof.Rows.lex_trans (O := itemOrd) _ _ _ (show PyProof.Rows.lexLt itemOrd (W.keyToks y) (W.keyToks x) = true from e) (show PyProof.Rows.lexLt itemOrd (W.keyToks x) (W.keyToks y) = true from e2)
      rw [PyProof.Rows.lex_irrefl] at this
      cases this
theorem sortL_perm (xs : List PyData) : (sortL xs).Perm xs := List.mergeSort_perm _ _
theorem sortL_pairwise (xs : List PyData) : (sortL xs).Pairwise fun a b => W.dataLe false id a b = true := List.pairwise_mergeSort le_trans le_total xs
theorem sortL_congr {xs ys : List PyData} (p : ys.Perm xs) (hal : W.AllAlike xs) : sortL ys = sortL xs := by
  refine List.Perm.eq_of_pairwise (le := fun a b => W.dataLe false id a b = true) (fun a b ha hb h1 h2 => ?_) (sortL_pairwise ys) (sortL_pairwise xs) ((sortL_perm ys).trans (p.trans (sortL_perm xs).symm))
  exact le_anti (hal a (p.mem_iff.mp ((sortL_perm ys).mem_iff.mp ha)) b ((sortL_perm xs).mem_iff.mp hb)) h1 h2
mutual
theorem reads_at {h : Heap} : ∀ (d : PyData) (v : Value) (as : List Addr), Reads h v d as → ∀ a ∈ as, ∃ o, h.get? a = some o
  | .none, _, _, r, a, ha => by cases r; cases ha
  | .bool _, _, _, r, a, ha => by cases r; cases ha
  | .int _, _, _, r, a, ha => by cases r; cases ha
  | .str _, _, _, r, a, ha => by cases r; cases ha
  | .list xs, _, _, r, a, ha => by
    cases r with
    | list h1 h2 h3 h4 =>
      rcases List.mem_cons.mp ha with e | e
      · rw [e]; exact ⟨_, h1⟩
      · exact readsAll_at xs _ _ h4 a e
  | .tuple xs, _, _, r, a, ha => by
    cases r with
    | tuple h1 h2 h3 h4 => exact readsAll_at xs _ _ h4 a ha
  | .dict kvs, _, _, r, a, ha => by
    cases r with
    | dict h1 h2 h3 h4 h5 =>
      rcases List.mem_cons.mp ha with e | e
      · rw [e]; exact ⟨_, h1⟩
      · rcases List.mem_append.mp e with e | e
        · exact readsKey_at kvs _ _ h4 a e
        · exact readsVal_at kvs _ _ h5 a e
theorem readsAll_at {h : Heap} : ∀ (ds : List PyData) (vs : List Value) (as : List Addr), ReadsAll h vs ds as → ∀ a ∈ as, ∃ o, h.get? a = some o
  | [], _, _, r, a, ha => by cases r; cases ha
  | d :: ds, _, _, r, a, ha => by
    cases r with
    | cons h1 h2 =>
      rcases List.mem_append.mp ha with e | e
      · exact reads_at d _ _ h1 a e
      · exact readsAll_at ds _ _ h2 a e
theorem readsKey_at {h : Heap} : ∀ (ds : List (PyData × PyData)) (vs : List Value) (as : List Addr), ReadsAll h vs (ds.map (·.1)) as → ∀ a ∈ as, ∃ o, h.get? a = some o
  | [], _, _, r, a, ha => by cases r; cases ha
  | (d, y) :: ds, _, _, r, a, ha => by
    cases r with
    | cons h1 h2 =>
      rcases List.mem_append.mp ha with e | e
      · exact reads_at d _ _ h1 a e
      · exact readsKey_at ds _ _ h2 a e
theorem readsVal_at {h : Heap} : ∀ (ds : List (PyData × PyData)) (vs : List Value) (as : List Addr), ReadsAll h vs (ds.map (·.2)) as → ∀ a ∈ as, ∃ o, h.get? a = some o
  | [], _, _, r, a, ha => by cases r; cases ha
  | (x, d) :: ds, _, _, r, a, ha => by
    cases r with
    | cons h1 h2 =>
      rcases List.mem_append.mp ha with e | e
      · exact reads_at d _ _ h1 a e
      · exact readsVal_at ds _ _ h2 a e
end
section
variable {P : Program} {w : World} {A : Around} {E : Value → Shared → Prop} {s : Shared}
/-- sorted(x), by what x gathers -/
theorem sort_any {x : Value} {R : Value → PyData → Prop} {good : List PyData → Prop} {St : Shared → Prop} {Q : Value → Shared → Prop}
    (hcol : ∀ Q' : List Value → Shared → Prop, (∀ s1 vs bs, St s1 → PySem.W.EachIs R vs bs → PySem.W.EachIs (fun v d => ∃ as, Reads s1.heap v d as) vs bs → good bs → Q' vs s1) → wpAny (model P w) A.in1 (collect x) Q' E s)
    (hg : ∀ bs, good bs → SortOk bs) (hu : A.units + 64 < cLine)
    (hQ : ∀ s1 out c h' bs, St s1 → good bs → (∀ b o, s1.heap.get? b = some o → h'.get? b = some o) → h'.get? s1.heap.objs.size = some (seqObj "list" (List.toArray out) c) → out.length = bs.length → PySem.W.EachIs R out (sortL bs) → Q (.ref s1.heap.objs.size) { s1 with heap := h' }) :
    wpAny (model P w) A (call (.builtin "sorted") [x]) Q E s := by
  refine Calls.call_function_entry kind_sorted plain_sorted entry_sorted (args_sorted1 _) ?_
  unfold Builtin.«sorted»
  refine wpAny_bind (m := checkCount "sorted" 1 1 _) (wpAny_pure ?_)
  refine wpAny_bind (hcol _ fun s1 vs bs st e1 e2 gd => ?_)
  have so := hg bs gd
  refine wpAny_bind (wpAny_newList ?_ (by rw [e1.length]; exact so.sz))
  have hoL : (s1.heap.push (seqObj "list" vs.toArray 0)).get? s1.heap.objs.size = some (seqObj "list" vs.toArray 0) := Heap.get?_push_size _ rfl
  have e3 : PySem.W.EachIs (fun v b => ∃ as, Reads (s1.heap.push (seqObj "list" vs.toArray 0)) v (id b) as ∧ s1.heap.objs.size ∉ as) vs bs := e2.mono fun v d ⟨as, r⟩ => by
    refine ⟨as, PyProof.Rows.Reads.keeps (fun b o e => Heap.get?_push_of_some _ e) r, fun hm => ?_⟩
    obtain ⟨o, ho⟩ := reads_at _ _ _ r _ hm
    exact Nat.lt_irrefl _ (Heap.lt_size ho)
  refine wpAny_bind (wpAny_holding (PySem.W.list_sort_data (A := A.in1) (s := { s1 with heap := s1.heap.push (seqObj "list" vs.toArray 0) }) (enc := id) hoL e1 e3 (by rw [List.map_id]; exact so.al) (by rw [List.map_id]; exact so.so) so.sz (fun b hb => by have := so.dp b hb; show A.units + 1 + 1 + b.depth < cLine; omega) fun out ho eo => ?_))
  obtain ⟨c, hc⟩ := sortedHeap_at (vs := vs) (out := List.toArray out) hoL
  refine wpAny_pure ⟨_, rfl, hQ s1 out c _ bs st gd (fun b u e => ?_) hc ho eo⟩
  have hlt := Heap.lt_size e
  show (sortedHeap (s1.heap.push (seqObj "list" vs.toArray 0)) s1.heap.objs.size vs (List.toArray out)).get? b = some u
  rw [sortedHeap_old (Nat.ne_of_lt hlt) (by rw [size_push']; exact Nat.lt_succ_of_lt hlt)]
  exact Heap.get?_push_of_some _ e
end
end Mini

set_option Elab.async false
set_option linter.all false
set_option maxRecDepth 100000
set_option maxHeartbeats 4000000
namespace Mini
open PySem PySem.Spec PyProof.Rows L2
section
variable {X : Cx} {pins : List (Addr × Obj)} {σ : L2.St} {H Hf : Hp} {s : Shared} {a : Addr} {xs ys : List PyData} {w : World} {K : PySem.W.Frag}
theorem each_len {α β : Type} {R : α → β → Prop} : ∀ {l : List α} {m : List β}, PySem.W.EachIs R l m → l.length = m.length
  | _, _, .nil => rfl
  | _, _, .cons _ t => by rw [List.length_cons, List.length_cons, each_len t]
theorem e3_each : ∀ {es : List (Int × Value)} {ds : List PyData}, Paired (E3 w K Hf) es ds → PySem.W.EachIs (fun u d => ∃ v, RelV v u ∧ Rp w K Hf v d) (es.map (·.2)) ds
  | _, _, .nil => .nil
  | _, _, .cons ⟨v, h1, h2, _⟩ t => .cons ⟨v, h1, h2⟩ (e3_each t)
theorem each_perm {α β : Type} {R : α → β → Prop} {l l' : List α} {m : List β} (p : l'.Perm l) (h : PySem.W.EachIs R l m) : ∃ m', m'.Perm m ∧ PySem.W.EachIs R l' m' := by
  have to : ∀ {l : List α} {m : List β}, PySem.W.EachIs R l m → Paired R l m := fun {l m} h => by
    induction h with
    | nil => exact .nil
    | cons h _ ih => exact .cons h ih
  have fro : ∀ {l : List α} {m : List β}, Paired R l m → PySem.W.EachIs R l m := fun {l m} h => by
    induction h with
    | nil => exact .nil
    | cons h _ ih => exact .cons h ih
  obtain ⟨m', p1, p2⟩ := paired_perm p (to h)
  exact ⟨m', p1, fro p2⟩
theorem each_read (I : Inv X pins σ H s) (sub : Same Hf H) {us : List Value} {ds : List PyData} (h : PySem.W.EachIs (fun u d => ∃ v, RelV v u ∧ Rp X.w X.K Hf v d) us ds) : PySem.W.EachIs (fun v d => ∃ as, Reads s.heap v d as) us ds :=
  h.mono fun u d ⟨v, r1, r2⟩ => Rp.reads I d v u (Rp.mono sub _ _ r2) r1
/-- what may be sorted: a list, a tuple, a set, a dict's keys -/
def Sorts (X : Cx) (Hf H : Hp) (a : Addr) (ys : List PyData) : Prop :=
  (∃ vs, (H a = some (.lst vs) ∨ SqT X.K H a vs) ∧ RpAll X.w X.K Hf vs ys) ∨ SetAt X.w X.K Hf H a ys ∨ ∃ kvs, DicAt X.w X.K Hf H a kvs ∧ ys = kvs.map (·.1)
def rSortA (X : Cx) : List V → Hp → VK → Prop := fun zs H Q => ∃ a ys Hf, zs = [.ref a] ∧ Same Hf H ∧ Sorts X Hf H a ys ∧ sortOk ys = true ∧ ∀ us p, RpAll X.w X.K Hf us (sortL ys) → H p = none → Q (.ref p) (upd H p (.lst us))
theorem keys_out {es : Array DictEntry} {acc : Array Value} (h : ItemsOf (fun i v => ∃ en : DictEntry, es[i]? = some en ∧ v = en.key) acc es.size) : acc.toList = es.toList.map (·.key) := by
  refine items_out (Pv := fun i v => ∃ en : DictEntry, es[i]? = some en ∧ v = en.key) (out := es.toList.map (·.key)) (by rw [List.length_map, Array.length_toList]; exact h) fun j v z => ?_
  obtain ⟨en, e1, e2⟩ := z
  rw [List.getElem?_map, Array.getElem?_toList, e1, e2]; rfl
theorem call_sortA (hc : X.calm = true) (hu : X.A.units + 64 < cLine) : CallR X (.builtin "sorted") (rSortA X) := by
  intro pins s σ H zs us Q I r h
  obtain ⟨a, ys, Hf, rfl, sub, so, ok, q⟩ := h
  rw [Vals.ref1 r]
  have sok := sortOk_of ok
  refine sort_any (R := fun u d => ∃ v, RelV v u ∧ Rp X.w X.K Hf v d) (good := fun bs => bs.Perm ys) (St := fun s1 => Inv X pins σ H s1) (fun Q' hq => ?_) (fun bs p => ?_) hu fun s1 out c h' bs I1 pm k hp hl eo => ?_
  · have go : ∀ s1 vs, Inv X pins σ H s1 → PySem.W.EachIs (fun u d => ∃ v, RelV v u ∧ Rp X.w X.K Hf v d) vs ys → Q' vs s1 := fun s1 vs I1 e1 => hq s1 vs ys I1 e1 (each_read I1 sub e1) (List.Perm.refl _)
    rcases so with ⟨vs, h1, rp⟩ | sa | ⟨kvs, da, rfl⟩
    · have seq : ∀ {T : String} {ob : Obj} {its : List Value} {n : Nat}, (T = "list" ∨ T = "tuple") → s.heap.get? a = some ob → ob.cls = .type T → ob.data = .seq its.toArray n → Vals vs its → wpAny (model X.prog X.w) X.A.in1 (collect (.ref a)) Q' X.xe s := fun {T ob its n} hT ho hc' hd rv => by
        have e1 := each_of rv rp
        refine wpAny_collect_seq a hT ho hc' hd (fun h' kp => ?_) (by rw [List.size_toArray, each_len e1]; exact sok.sz)
        exact go { s with heap := h' } _ (I.kept (t' := s.toks) kp) (by simpa using e1)
      rcases h1 with h1 | h1
      · obtain ⟨its, rv, ⟨ob, n, ho, hc', _, hd⟩, _⟩ := I.list (.inl (.inl h1))
        exact seq (.inl rfl) ho hc' hd rv
      · obtain ⟨its, rv, ⟨ob, ho, hc', n, hd⟩, _⟩ := I.tuple h1
        exact seq (.inr rfl) ho hc' hd rv
    · obtain ⟨ob, es, ep, t, zs, h1, h2, h3, h4, h5, h6, h7, h8, h9, h10, _⟩ := sa
      have ho : s.heap.get? a = some ob := (I.hok _ _ h1).1
      have hsz : es.size = ys.length := by rw [← Array.length_toList, Paired.length h4, h5.length_eq]
      refine collect_set (A := X.A.in1) (by simpa using I.ok.hd hc) ⟨ob, ho, h2.1, h3⟩ h6 (by rw [hsz]; show ys.length < 4096; omega) h7 h8 fun s1 vs k1 z1 g1 o1 pm => ?_
      obtain ⟨bs, p1, p2⟩ := each_perm pm (e3_each h4)
      have J : Inv X pins σ H { s with heap := s1.heap, gens := s1.gens, drawn := s1.drawn, toks := s1.toks } := I.call (ch := []) (Un.kept k1) (I.hok.kept k1) (by rw [g1]; exact I.bare) (fun _ z => nomatch z)
      have e : s1 = { s with heap := s1.heap, gens := s1.gens, drawn := s1.drawn, toks := s1.toks } := by
        cases s1
        cases s
        cases o1
        rfl
      rw [← e] at J
      exact hq s1 vs bs J p2 (each_read J sub p2) (p1.trans h5)
    · obtain ⟨ob, es, ep, kw, vw, h1, h2, h3, h4, h5, h6, h7, h8, h9, h10⟩ := da
      have ho : s.heap.get? a = some ob := (I.hok _ _ h1).1
      have e1 := each_of h5 h7
      refine PySem.W.kdu_collect (A := X.A.in1) (kdl_raw (es := es) (ep := ep) h2 h3 h4) (by simpa using I.ok.hd hc) ho ?_ fun h' tk acc hk hacc => ?_
      · have := each_len e1
        rw [List.length_map, Array.length_toList] at this
        rw [this]; exact sok.sz
      · rw [keys_out hacc]
        exact go _ _ (I.kept (t' := tk) hk) e1
  · refine ⟨fun d hd d' hd' => sok.al d (p.mem_iff.mp hd) d' (p.mem_iff.mp hd'), ?_, fun x hx => sok.dp x (p.mem_iff.mp hx), by rw [p.length_eq]; exact sok.sz⟩
    rcases sok.so with h | h
    · exact .inl fun d hd => h d (p.mem_iff.mp hd)
    · exact .inr fun d hd => h d (p.mem_iff.mp hd)
  · rw [sortL_congr pm sok.al] at eo
    obtain ⟨ws, r1, r2⟩ := of_each eo
    have hlen : ws.length ≤ sizeLine := by rw [r1.length, hl, pm.length_eq]; exact sok.sz
    exact ⟨.ref _, upd H s1.heap.objs.size (.lst ws), I1.laid (t' := s1.toks) k (Nat.le_refl _) ⟨hlen, out, c, r1, hp⟩, rfl, q ws _ r2 (I1.hok.fresh (Nat.le_refl _))⟩
end
end Mini

set_option Elab.async false
set_option linter.all false
set_option maxRecDepth 100000
set_option maxHeartbeats 4000000
namespace Mini
open PySem PySem.Spec PyProof.Rows L2
/-! ### dict(pairs), the keys tuples -/
section
variable {X : Cx} {pins : List (Addr × Obj)} {σ : L2.St} {H Hf : Hp} {s : Shared} {a : Addr}
abbrev Row := NestedKey × Addr × Value
def RowOf (w : World) (K : PySem.W.Frag) (Hf : Hp) (p : PyData × PyData) (q : Row) : Prop := q.1 = keyOf p.1 ∧ Rp w K Hf (.ref q.2.1) p.1 ∧ ∃ v, RelV v q.2.2 ∧ Rp w K Hf v p.2
theorem rows_of (I : Inv X pins σ H s) (sub : Same Hf H) : ∀ {vs : List V} {us : List Value} {xs : List PyData} {ps : List (PyData × PyData)}, Vals vs us → RpAll X.w X.K Hf vs xs → pairsOf xs = some ps → (∀ p ∈ ps, isTupD p.1 = true) →
    ∃ (qs : List Row) (Ts : List Addr), us = Ts.map Value.ref ∧ Ts.length = qs.length ∧ Paired (RowOf X.w X.K Hf) ps qs ∧ ∀ (j : Nat) (T : Addr) (q : Row), Ts[j]? = some T → qs[j]? = some q → s.heap.IsTuple T #[.ref q.2.1, q.2.2]
  | _, _, [], ps, .nil, .nil, e, _ => by cases e; exact ⟨[], [], rfl, rfl, .nil, fun j T q e => by simp at e⟩
  | v :: vs, u :: us, x :: xs, ps, .cons r1 r2, .cons h1 h2, e, ht => by
    unfold pairsOf at e
    cases e1 : pairOf x with
    | none => rw [e1] at e; cases e
    | some p =>
      cases e2 : pairsOf xs with
      | none => rw [e1, e2] at e; cases e
      | some pr =>
        rw [e1, e2] at e
        cases e
        obtain ⟨qs, Ts, a1, a2, a3, a4⟩ := rows_of I sub r2 h2 e2 fun p hp => ht p (List.mem_cons_of_mem _ hp)
        have hx : x = .tuple [p.1, p.2] := by
          unfold pairOf at e1
          split at e1
          · cases e1; rfl
          · cases e1
        subst hx
        cases h1 with
        | @tup T ws _ g1 g2 =>
          cases (show u = Value.ref T from r1)
          obtain ⟨its, rv, pl, _⟩ := I.tuple (SqT.same sub g1)
          cases g2 with
          | @cons w1 _ _ _ k1 g2 =>
            cases g2 with
            | @cons w2 _ _ _ k2 g2 =>
              cases g2
              cases rv with
              | @cons _ t1 _ _ b1 rv =>
                cases rv with
                | @cons _ t2 _ _ b2 rv =>
                  cases rv
                  obtain ⟨b, rfl⟩ := rp_ref_tup (ht p List.mem_cons_self) k1
                  cases (show t1 = Value.ref b from b1)
                  refine ⟨(keyOf p.1, b, t2) :: qs, T :: Ts, by rw [List.map_cons, ← a1], by rw [List.length_cons, List.length_cons, a2], .cons ⟨rfl, k1, w2, b2, k2⟩ a3, fun j T' q eT eq => ?_⟩
                  cases j with
                  | zero =>
                    cases (show some T = some T' from eT)
                    cases (show some (keyOf p.1, b, t2) = some q from eq)
                    exact pl
                  | succ j => exact a4 j T' q (by simpa using eT) (by simpa using eq)
theorem merge_rows {w : World} {K : PySem.W.Frag} : ∀ {ps : List (PyData × PyData)} {qs : List Row} {kvs : List (PyData × PyData)} {acc : List Row}, Paired (RowOf w K Hf) ps qs → (∀ p ∈ ps, keyOk p.1 = true) → Paired (RowOf w K Hf) kvs acc → (∀ p ∈ kvs, keyOk p.1 = true) →
    Paired (RowOf w K Hf) (mergeD kvs ps) (storedAllH acc qs)
  | _, _, _, _, .nil, _, h, _ => h
  | (k, d) :: ps, q :: qs, kvs, acc, .cons ⟨h1, h2, v, h3, h4⟩ t, hk, h, hf => by
    have k1 := hk (k, d) List.mem_cons_self
    have e : storedAllH acc (q :: qs) = storedAllH (storedH acc (keyOf k) q.2.1 q.2.2) qs := by
      show (qs.foldl _ (storedH acc q.1 q.2.1 q.2.2)) = _
      rw [h1]; rfl
    rw [e]
    show Paired _ (mergeD (dPut kvs k d) ps) _
    refine merge_rows t (fun p hp => hk p (List.mem_cons_of_mem _ hp)) (put_tup k1 h2 h3 h4 h hf) fun p hp => ?_
    have hm : p.1 ∈ (dPut kvs k d).map (·.1) := List.mem_map.mpr ⟨p, hp, rfl⟩
    rw [dPut_keys] at hm
    split at hm
    · obtain ⟨p', hp', e⟩ := List.mem_map.mp hm; rw [← e]; exact hf p' hp'
    · rcases List.mem_append.mp hm with hm | hm
      · obtain ⟨p', hp', e⟩ := List.mem_map.mp hm; rw [← e]; exact hf p' hp'
      · rw [List.mem_singleton.mp hm]; exact k1
theorem merge_ok : ∀ {ps kvs : List (PyData × PyData)}, keysOk (kvs.map (·.1)) = true → (∀ p ∈ kvs, isTupD p.1 = true) → (∀ p ∈ ps, keyOk p.1 = true ∧ isTupD p.1 = true) → keysOk ((mergeD kvs ps).map (·.1)) = true
  | [], _, h, _, _ => h
  | (k, d) :: ps, kvs, h, ht, hp => by
    obtain ⟨k1, k2⟩ := hp (k, d) List.mem_cons_self
    have hw : keysWith (kvs.map (·.1)) k = true := by
      unfold keysWith
      simp only [Bool.and_eq_true, List.all_eq_true, beq_iff_eq]
      refine ⟨k1, fun x hx => ?_⟩
      obtain ⟨p, hp, rfl⟩ := List.mem_map.mp hx
      rw [ht p hp]; exact k2.symm
    refine merge_ok (kvs := dPut kvs k d) (dPut_ok h hw) (fun p hp' => ?_) fun p hp' => hp p (List.mem_cons_of_mem _ hp')
    have hm : p.1 ∈ (dPut kvs k d).map (·.1) := List.mem_map.mpr ⟨p, hp', rfl⟩
    rw [dPut_keys] at hm
    split at hm
    · obtain ⟨p', hp', e⟩ := List.mem_map.mp hm; rw [← e]; exact ht p' hp'
    · rcases List.mem_append.mp hm with hm | hm
      · obtain ⟨p', hp', e⟩ := List.mem_map.mp hm; rw [← e]; exact ht p' hp'
      · rw [List.mem_singleton.mp hm]; exact k2
def rDictM (X : Cx) : List V → Hp → VK → Prop := fun zs H Q => ∃ a vs xs ps Hf, zs = [.ref a] ∧ H a = some (.lst vs) ∧ Same Hf H ∧ RpAll X.w X.K Hf vs xs ∧ pairsOf xs = some ps ∧ dictOk ps = true ∧
  ∀ p o, H p = none → DicAt X.w X.K Hf (upd H p (exO p o)) p (mergeD [] ps) → Q (.ref p) (upd H p (exO p o))
theorem call_dictM (hc : X.calm = true) (hu : X.A.units + 70 < cLine) : CallR X (.type "dict") (rDictM X) := by
  intro pins s σ H zs us Q I r h
  obtain ⟨a, vs, xs, ps, Hf, rfl, h1, sub, rp, e1, ok, q⟩ := h
  rw [Vals.ref1 r]
  unfold dictOk at ok
  simp only [Bool.and_eq_true, List.all_eq_true] at ok
  obtain ⟨okk, okz⟩ := ok
  obtain ⟨its, rv, ⟨ob, n, ho, hc', hdd, hd⟩, _⟩ := I.list (.inl (.inl h1))
  obtain ⟨qs, Ts, b1, b2, b3, b4⟩ := rows_of I sub rv rp e1 fun p hp => (okk p hp).2
  have hlen : qs.length = ps.length := (Paired.length b3).symm
  have keyAt : ∀ q ∈ qs, (nestedKind X.prog X.w).is s.heap q.1 q.2.1 := fun q hq => by
    obtain ⟨p, hp, c1, c2, _⟩ := paired_mem' b3 q hq
    have hk := (okk p hp).1
    rw [c1]
    exact ⟨Rp.nested I p.1 _ _ _ (keyOk_some hk).1 (Rp.mono sub _ _ c2) rfl, (keyOk_some hk).2⟩
  refine PySem.call_dict_pairsH (knd := nestedKind X.prog X.w) (ps := qs) (PairArg.list a its.toArray (fun j => (Ts[j]?).getD 0) (qs.map fun q => (Value.ref q.2.1, q.2.2))) (I.ok.hd hc) (nk_room (by simp; omega)) ⟨⟨ob, n, ho, hc', hdd, hd⟩, ?_, fun j k v e => ?_⟩ ⟨by rw [List.length_map], fun i key v e => ?_⟩ (fun h' hk x hx => ?_) ?_ fun h' tk dd kp => ?_
  · rw [b1, List.size_toArray, List.length_map, List.length_map, b2]
  · rw [List.getElem?_map] at e
    obtain ⟨q', e1, e2⟩ := Option.map_eq_some_iff.mp e
    cases e2
    obtain ⟨T, eT⟩ : ∃ T, Ts[j]? = some T := ⟨_, List.getElem?_eq_getElem (by rw [b2]; exact (List.getElem?_eq_some_iff.mp e1).1)⟩
    refine ⟨?_, .inl ?_⟩
    · show its.toArray[j]? = some (Value.ref ((Ts[j]?).getD 0))
      rw [List.getElem?_toArray, b1, List.getElem?_map, eT]; rfl
    · show s.heap.IsTuple ((Ts[j]?).getD 0) _
      rw [eT]
      exact b4 j T q' eT e1
  · have e : (qs.map fun q => (Value.ref q.2.1, q.2.2))[i]? = some (key, v) := e
    rw [List.getElem?_map] at e
    obtain ⟨q', e1, e2⟩ := Option.map_eq_some_iff.mp e
    cases e2
    exact ⟨q'.1, q'.2.1, e1, rfl⟩
  · obtain ⟨x1, x2⟩ := keyAt x hx
    exact ⟨NestedIs.at (fun b ob vs n hb _ => hk b ob (Nat.ne_of_lt (Heap.lt_size hb)) (fun z => nomatch z) hb) _ _ x1, x2⟩
  · rw [List.length_map, hlen]; exact fits_of okz
  · obtain ⟨o', es', ep', g1, g2, g3, g4, _, g6⟩ := dd
    have hn : H s.heap.objs.size = none := I.hok.fresh (Nat.le_refl _)
    have pr := merge_rows (kvs := []) (acc := []) b3 (fun p hp => (okk p hp).1) .nil (fun _ z => nomatch z)
    have hok : keysOk ((mergeD [] ps).map (·.1)) = true := merge_ok (kvs := []) rfl (fun _ z => nomatch z) fun p hp => okk p hp
    obtain ⟨kw', vw', f1, f2, f3, f4, f5⟩ := back_tup (P := X.prog) pr fun p hp => keysOk_all hok p.1 (List.mem_map.mpr ⟨p, hp, rfl⟩)
    refine ⟨.ref s.heap.objs.size, _, I.laid (t' := tk) (o := exO s.heap.objs.size o') (fun b o e => kp b o (fun z => nomatch z) e) (Nat.le_refl _) (exO_ok g1), rfl, q _ o' hn ?_⟩
    exact ⟨o', es', ep', kw', vw', upd_same, beq_eq_false_iff_ne.mpr (Nat.ne_of_gt I.big), g2, g3, by rw [g4]; exact f1, by rw [g4]; exact f2, f3, f4, by rw [g4]; exact f5, hok⟩
end
end Mini

set_option Elab.async false
set_option linter.all false
set_option maxRecDepth 100000
set_option maxHeartbeats 2000000
namespace Mini
open PySem PySem.Spec PyProof.Rows L2
section
variable {X : Cx} {Γ : Env} {xcl : Str → Option Addr} {fx : Fx} {W : WX} {N : List Str} {sc : Scope} {st : Str → Bool} {k : Nat} {pos : Pos} {m : Bool}
/-- one argument -/
theorem bi_one {b : Bi} {f : Str} {p : Pos} {x : Expr} {xs : List Expr} {es : Es} {r : List V → Hp → VK → Prop} (hb : ∀ v u, bi2 b v u = none) (hp : PE X (.Call (.Name f p) (x :: xs) [] pos) (tCB r (tLook (cfg X Γ xcl fx) W es)))
    (hr : ∀ σ p H Q v u val, (cfg X Γ xcl fx).sim p H σ → (cfg X Γ xcl fx).rv p H u v → bi1 b v = some val → Got (cfg X Γ xcl fx) σ p H Q val → r [u] H Q) : PE X (.Call (.Name f p) (x :: xs) [] pos) (tE (cfg X Γ xcl fx) W (.bi b es) m) :=
  bi_gen hp fun σ p H Q vals vs val s rvs e g => by
    match vals, rvs, e with
    | [v], rvs, e =>
      obtain ⟨u, rfl, rv⟩ := rvs.one
      exact hr σ p H Q v u val s rv e g
    | [v, u], _, e => rw [show biV b [v, u] = bi2 b v u from rfl, hb] at e; cases e
    | [], _, e => cases e
    | _ :: _ :: _ :: _, _, e => cases e
theorem bi_two {b : Bi} {f : Str} {p : Pos} {x : Expr} {xs : List Expr} {es : Es} {r : List V → Hp → VK → Prop} (hb : ∀ v, bi1 b v = none) (hp : PE X (.Call (.Name f p) (x :: xs) [] pos) (tCB r (tLook (cfg X Γ xcl fx) W es)))
    (hr : ∀ σ p H Q v w u z val, (cfg X Γ xcl fx).sim p H σ → (cfg X Γ xcl fx).rv p H u v → (cfg X Γ xcl fx).rv p H z w → bi2 b v w = some val → Got (cfg X Γ xcl fx) σ p H Q val → r [u, z] H Q) : PE X (.Call (.Name f p) (x :: xs) [] pos) (tE (cfg X Γ xcl fx) W (.bi b es) m) :=
  bi_gen hp fun σ p H Q vals vs val s rvs e g => by
    match vals, rvs, e with
    | [v], _, e => rw [show biV b [v] = bi1 b v from rfl, hb] at e; cases e
    | [v, w], rvs, e =>
      obtain ⟨u, z, rfl, r1, r2⟩ := rvs.two
      exact hr σ p H Q v w u z val s r1 r2 e g
    | [], _, e => cases e
    | _ :: _ :: _ :: _, _, e => cases e
theorem Got.ext {c : Cfg} {σ : L2.St} {p : Pt} {H : Hp} {Q : VK} {val : Val} {q : Addr} {o : HO} (g : Got c σ p H Q val) (s : c.sim p H σ) (hq : H q = none) (hv : val.owned = true) (rv : ¬ DrAll p.L q → c.rv p (upd H q o) (.ref q) val) : Q (.ref q) (upd H q o) := by
  obtain ⟨s', st'⟩ := s.layO (o := o) hq
  have nd : ¬ DrAll p.L q := fun z => by
    obtain ⟨o, e⟩ := s.drSome z
    rw [hq] at e; cases e
  have hn : p.Hf q = none := by
    cases e : p.Hf q with
    | none => rfl
    | some o => rw [s.sub q o e] at hq; cases hq
  exact g (.ref q) _ p rfl s' st' (rv nd) fun _ => ⟨q, rfl, hq, hn⟩
theorem sort_read {σ : L2.St} {p : Pt} {H : Hp} {Q : VK} {x : Val} {v : V} {val : Val} (s : (cfg X Γ xcl fx).sim p H σ) (rx : (cfg X Γ xcl fx).rv p H v x) (h : (match sortSrc x with | some xs => if sortOk xs then some (Val.ol (sortL xs)) else none | none => none) = some val) (g : Got (cfg X Γ xcl fx) σ p H Q val) : rSortA X [v] H Q := by
  have fin : ∀ {a : Addr} {ys : List PyData}, v = .ref a → Sorts X p.Hf H a ys → (if sortOk ys then some (Val.ol (sortL ys)) else none) = some val → rSortA X [v] H Q := fun {a ys} e so h => by
    split at h
    · rename_i hs
      cases h
      exact ⟨a, ys, p.Hf, by rw [e], s.sub, so, hs, fun us q r hq => g.lst s r q hq⟩
    · cases h
  cases x with
  | os xs =>
    obtain ⟨a, e, sa, _⟩ := rx
    exact fin e (.inr (.inl sa)) h
  | d x =>
    cases x with
    | list ys =>
      obtain ⟨a, vs, e, h1, h2⟩ := rx.list s.sub rfl
      exact fin e (.inl ⟨vs, .inl h1, h2⟩) h
    | tuple ys =>
      obtain ⟨a, vs, e, h1, h2⟩ := rx.tuple s.sub rfl
      exact fin e (.inl ⟨vs, .inr h1, h2⟩) h
    | dict kvs =>
      obtain ⟨a, e, da⟩ := rx.dict s.sub rfl
      exact fin e (.inr (.inr ⟨kvs, da, rfl⟩)) h
    | _ => cases h
  | ol ys =>
    obtain ⟨a, vs, e, h1, h2⟩ := rx.list s.sub rfl
    exact fin e (.inl ⟨vs, .inl h1, h2⟩) h
  | od kvs =>
    obtain ⟨a, e, da⟩ := rx.dict s.sub rfl
    exact fin e (.inr (.inr ⟨kvs, da, rfl⟩)) h
  | drw => cases h
  | scr _ => cases h
  | er _ _ => cases h
theorem dat_cases {x : Val} {α : Type} {f : PyData → Option α} {a : α} (h : (match x.dat with | some y => f y | none => none) = some a) : ∃ y, x.dat = some y ∧ f y = some a := by
  cases e : x.dat with
  | none => rw [e] at h; cases h
  | some y => rw [e] at h; exact ⟨y, rfl, h⟩
theorem s_bi {b : Bi} {f : Str} {p : Pos} {x : Expr} {xs : List Expr} {es : Es} (ok : XOk Γ xcl W N sc st k X) (hf : f = biName b) (hgl : glB sc f = true) (hes : isEs N sc es (x :: xs) = true) (ha : PA X (x :: xs) (tLook (cfg X Γ xcl fx) W es)) :
    PE X (.Call (.Name f p) (x :: xs) [] pos) (tE (cfg X Γ xcl fx) W (.bi b es) m) := by
  obtain ⟨hg, hd, hn⟩ := gl_of ok hgl
  have am : ArgOk X x xs := argOk_of hes
  have hu : X.A.units + 70 < cLine := by have := ok.room.un; omega
  have hu' : X.A.units + 64 < cLine := by omega
  subst hf
  have hm : X.mg (biName b) = none := ok.G.bt _ (by cases b <;> decide)
  cases b with
  | len =>
    refine bi_one (fun _ _ => rfl) (pe_callB call_lenM hg hm (by decide +kernel) ha hn hd am.he (am.hpl pos)) fun σ p H Q v u val s rv e g => ?_
    have e : (match lenV v with | some n => some (Mini.int (n : Int)) | none => none) = some val := e
    split at e
    · rename_i n e1
      cases e
      exact len_read rfl rfl s rv e1 (g.flat s rfl)
    · cases e
  | sorted => exact bi_one (fun _ _ => rfl) (pe_callB (call_sortA ok.calm hu') hg hm (by decide +kernel) ha hn hd am.he (am.hpl pos)) fun σ p H Q v u val s rv e g => sort_read s rv e g
  | tuple =>
    refine bi_one (fun _ _ => rfl) (pe_callTy call_tuple_of hg hm (by decide +kernel) ha hn hd am.he (am.hpl pos)) fun σ p H Q v u val s rv e g => ?_
    have e : (match v.dat with | some (.list xs) => some (Val.d (.tuple xs)) | some (.tuple xs) => some (Val.d (.tuple xs)) | _ => none) = some val := e
    split at e
    · rename_i ys ed
      cases e
      obtain ⟨a, ws, rfl, h1, h2⟩ := rv.list s.sub ed
      exact ⟨a, ws, rfl, .inl ⟨.inl (.inl h1), g.tup s h2⟩⟩
    · rename_i ys ed
      cases e
      obtain ⟨a, ws, rfl, h1, h2⟩ := rv.tuple s.sub ed
      have hx : v = .d (.tuple ys) := by cases v <;> first | (cases ed; rfl) | (cases ed; done)
      rw [hx] at rv
      exact ⟨a, ws, rfl, .inr ⟨h1, g.same s rv⟩⟩
    · cases e
  | list =>
    refine bi_one (fun _ _ => rfl) (pe_callTy call_list_of hg hm (by decide +kernel) ha hn hd am.he (am.hpl pos)) fun σ p H Q v u val s rv e g => ?_
    have e : (match v.dat with | some (.list xs) => some (Val.ol xs) | some (.tuple xs) => some (Val.ol xs) | _ => match (generalizing := false) v with | .scr ns => some (Val.ol (ns.map .int)) | _ => none) = some val := e
    split at e
    · rename_i ys ed
      cases e
      obtain ⟨a, ws, rfl, h1, h2⟩ := rv.list s.sub ed
      exact ⟨a, ws, rfl, .inl (.inl (.inl h1)), g.lst s h2⟩
    · rename_i ys ed
      cases e
      obtain ⟨a, ws, rfl, h1, h2⟩ := rv.tuple s.sub ed
      exact ⟨a, ws, rfl, .inr h1, g.lst s h2⟩
    · split at e
      · cases e
        obtain ⟨a, rfl, h1⟩ := rv
        exact ⟨a, _, rfl, .inl (SqL.same s.sub h1), g.lst s (ints_rp _)⟩
      · cases e
  | set =>
    refine bi_one (fun _ _ => rfl) (pe_callTy (call_setM ok.calm hu) hg hm (by decide +kernel) ha hn hd am.he (am.hpl pos)) fun σ p H Q v u val s rv e g => ?_
    have fin : ∀ {a : Addr} {ws : List V} {ys : List PyData}, u = .ref a → (H a = some (.lst ws) ∨ SqT X.K H a ws) → RpAll X.w X.K p.Hf ws ys → (if setOk ys then some (Val.os (dedup [] ys)) else none) = some val → rSetM X [u] H Q := fun {a ws ys} eu h1 h2 e => by
      split at e
      · rename_i hs
        cases e
        exact ⟨a, ws, ys, p.Hf, by rw [eu], h1, s.sub, h2, hs, fun q o hq sa => g.ext s hq rfl fun nd => ⟨q, rfl, sa, nd⟩⟩
      · cases e
    have e : (match v.dat with | some (.list xs) => (if setOk xs then some (Val.os (dedup [] xs)) else none) | some (.tuple xs) => (if setOk xs then some (Val.os (dedup [] xs)) else none) | _ => none) = some val := e
    split at e
    · rename_i ys ed
      obtain ⟨a, ws, eu, h1, h2⟩ := rv.list s.sub ed
      exact fin eu (.inl h1) h2 e
    · rename_i ys ed
      obtain ⟨a, ws, eu, h1, h2⟩ := rv.tuple s.sub ed
      exact fin eu (.inr h1) h2 e
    · cases e
  | dict =>
    refine bi_one (fun _ _ => rfl) (pe_callTy (call_dictM ok.calm hu) hg hm (by decide +kernel) ha hn hd am.he (am.hpl pos)) fun σ p H Q v u val s rv e g => ?_
    have e : (match v.dat with | some (.list xs) => (match pairsOf xs with | some ps => if dictOk ps then some (Val.od (mergeD [] ps)) else none | none => none) | _ => none) = some val := e
    split at e
    · rename_i ys ed
      obtain ⟨a, ws, eu, h1, h2⟩ := rv.list s.sub ed
      split at e
      · rename_i ps ep
        split at e
        · rename_i hs
          cases e
          exact ⟨a, ws, ys, ps, p.Hf, by rw [eu], h1, s.sub, h2, ep, hs, fun q o hq da => g.ext s hq rfl fun nd => ⟨q, rfl, da, nd⟩⟩
        · cases e
      · cases e
    · cases e
  | all =>
    refine bi_one (fun _ _ => rfl) (pe_callB (cr_all ok.calm) hg hm (by decide +kernel) ha hn hd am.he (am.hpl pos)) fun σ p H Q v u val s rv e g => ?_
    have e : (match v.dat with | some (.list xs) => (match allBools xs with | some bs => some (bl (bs.all id)) | none => none) | _ => none) = some val := e
    split at e
    · rename_i ys ed
      obtain ⟨a, ws, rfl, h1, h2⟩ := rv.list s.sub ed
      split at e
      · rename_i bs e1
        cases e
        refine ⟨a, bs, rfl, ?_, g.flat s rfl⟩
        rw [← bools_of e1 h2]
        exact .inl (.inl h1)
      · cases e
    · cases e
  | any =>
    refine bi_one (fun _ _ => rfl) (pe_callB (cr_any ok.calm) hg hm (by decide +kernel) ha hn hd am.he (am.hpl pos)) fun σ p H Q v u val s rv e g => ?_
    have e : (match v.dat with | some (.list xs) => (match allBools xs with | some bs => some (bl (bs.any id)) | none => none) | _ => none) = some val := e
    split at e
    · rename_i ys ed
      obtain ⟨a, ws, rfl, h1, h2⟩ := rv.list s.sub ed
      split at e
      · rename_i bs e1
        cases e
        refine ⟨a, bs, rfl, ?_, g.flat s rfl⟩
        rw [← bools_of e1 h2]
        exact .inl (.inl h1)
      · cases e
    · cases e
  | sum =>
    refine bi_one (fun _ _ => rfl) (pe_callB (cr_sum ok.calm) hg hm (by decide +kernel) ha hn hd am.he (am.hpl pos)) fun σ p H Q v u val s rv e g => ?_
    have e : (match v.dat with | some (.list xs) => (match allInts xs with | some bs => some (Mini.int bs.sum) | none => none) | _ => none) = some val := e
    split at e
    · rename_i ys ed
      obtain ⟨a, ws, rfl, h1, h2⟩ := rv.list s.sub ed
      split at e
      · rename_i bs e1
        cases e
        refine ⟨a, bs, rfl, ?_, g.flat s rfl⟩
        rw [← ints_of e1 h2]
        exact .inl (.inl h1)
      · cases e
    · cases e
  | repr =>
    refine bi_one (fun _ _ => rfl) (pe_callB (call_reprM ok.gd hu') hg hm (by decide +kernel) ha hn hd am.he (am.hpl pos)) fun σ p H Q v u val s rv e g => ?_
    have e : (match v.dat with | some x => (if showOk x then some (str x.shown) else none) | none => none) = some val := e
    split at e
    · rename_i y ed
      split at e
      · rename_i hs
        cases e
        exact ⟨u, y, rfl, rv.rp s.sub ed, hs, g.flat s rfl⟩
      · cases e
    · cases e
  | int =>
    refine bi_one (fun _ _ => rfl) (pe_callTy call_int1 hg hm (by decide +kernel) ha hn hd am.he (am.hpl pos)) fun σ p H Q v u val s rv e g => ?_
    have e : (match v.dat with | some (.int i) => some (Mini.int i) | some (.bool b) => some (Mini.int (if b then 1 else 0)) | _ => none) = some val := e
    split at e
    · rename_i i ed
      cases e
      cases rv.int ed
      exact .inl ⟨_, rfl, g.flat s rfl⟩
    · rename_i b ed
      cases e
      cases rv.bool ed
      exact .inr ⟨_, rfl, g.flat s rfl⟩
    · cases e
  | min =>
    refine bi_two (fun _ => rfl) (pe_callB (call_min2 ok.calm) hg hm (by decide +kernel) ha hn hd am.he (am.hpl pos)) fun σ p H Q v w u z val s r1 r2 e g => ?_
    have e : (match v.dat, w.dat with | some (.int i), some (.int j) => some (Mini.int (minI i j)) | _, _ => none) = some val := e
    split at e
    · rename_i i j e1 e2
      cases e
      cases r1.int e1; cases r2.int e2
      exact ⟨_, _, rfl, g.flat s rfl⟩
    · cases e
  | max =>
    refine bi_two (fun _ => rfl) (pe_callB (call_max2 ok.calm) hg hm (by decide +kernel) ha hn hd am.he (am.hpl pos)) fun σ p H Q v w u z val s r1 r2 e g => ?_
    have e : (match v.dat, w.dat with | some (.int i), some (.int j) => some (Mini.int (maxI i j)) | _, _ => none) = some val := e
    split at e
    · rename_i i j e1 e2
      cases e
      cases r1.int e1; cases r2.int e2
      exact ⟨_, _, rfl, g.flat s rfl⟩
    · cases e
end
end Mini

set_option Elab.async false
set_option linter.all false
set_option maxRecDepth 100000
set_option maxHeartbeats 2000000
namespace Mini
open PySem PySem.Spec PyProof.Rows L2
section
variable {X : Cx} {Γ : Env} {xcl : Str → Option Addr} {fx : Fx} {W : WX} {N : List Str} {sc : Scope} {st : Str → Bool} {k : Nat} {pos : Pos} {m : Bool}
/-! ### isinstance -/
theorem s_isi {t : Ty} {a : E} {x : Expr} {f g : Str} {p1 p2 : Pos} (ok : XOk Γ xcl W N sc st k X) (hf : f = "isinstance") (hg : g = tyName t) (gf : glB sc f = true) (gg : glB sc g = true) (hx : notStar x = true) (ha : PE X x (tE (cfg X Γ xcl fx) W a false)) :
    PE X (.Call (.Name f p1) [x, .Name g p2] [] pos) (tE (cfg X Γ xcl fx) W (.isi a t) m) := by
  obtain ⟨g1, g2, g3⟩ := gl_of ok gf
  obtain ⟨k1, k2, k3⟩ := gl_of ok gg
  subst hf
  subst hg
  have m1 : X.mg "isinstance" = none := ok.G.bt _ (by decide)
  have m2 : X.mg (tyName t) = none := ok.G.bt _ (by cases t <;> decide)
  have s1 : starEach [x, .Name (tyName t) p2] X.env = (false, eval x X.env) :: starEach [.Name (tyName t) p2] X.env := star_cons _ X.env hx
  have tn : PE X (.Name (tyName t) p2) (tC (.ty (tyS t))) := by
    cases t with
    | int => exact pe_bltn (u := .type "int") k1 m2 (by decide +kernel) rfl k3 k2
    | bool => exact pe_bltn (u := .type "bool") k1 m2 (by decide +kernel) rfl k3 k2
    | str => exact pe_bltn (u := .type "str") k1 m2 (by decide +kernel) rfl k3 k2
    | tuple => exact pe_bltn (u := .type "tuple") k1 m2 (by decide +kernel) rfl k3 k2
    | list => exact pe_bltn (u := .type "list") k1 m2 (by decide +kernel) rfl k3 k2
    | dict => exact pe_bltn (u := .type "dict") k1 m2 (by decide +kernel) rfl k3 k2
  refine (pe_callB (call_isi (t := t)) g1 m1 (by decide +kernel) (pa_cons ha (pa_cons tn pa_nil rfl) s1) g3 g2 s1 rfl).weak fun σ H Q ⟨p, s, q⟩ => ?_
  have q : OutP ((ev Γ a false >>= fun x => M.of (isiV t x) >>= fun b => pure (Mini.bl b)) p.S) _ _ := q
  refine tE.intro s (outP_bind q) (fun val v H1 p1 q1 s1 st1 rv _ => ?_) fun _ _ z => z
  obtain ⟨b, e, q1⟩ := outP_of (outP_bind q1)
  obtain ⟨d, ed, rfl⟩ := isi_of e
  have q1 := outP_pure q1
  exact ⟨v, d, rfl, rv.rp s1.sub ed, q1 _ H1 p1 rfl s1 st1 (Rp.bl _) fun _ z => nomatch z⟩
/-! ### methods -/
def TyM (X : Cx) (T : String) (x : V) (H : Hp) : Prop := (T = "str" ∧ ∃ z, x = .str z) ∨ (T = "dict" ∧ ∃ a kvs Hf, x = .ref a ∧ DicAt X.w X.K Hf H a kvs)
theorem tyM_is {T : String} {pins : List (Addr × Obj)} {s : Shared} {σ : L2.St} {H : Hp} {x : V} {v : Value} (I : Inv X pins σ H s) (r : RelV x v) (h : TyM X T x H) : s.TypeIs v T ∧ ∀ a, v = .ref a → ∃ ob, s.heap.get? a = some ob ∧ ob.dict = none := by
  rcases h with ⟨rfl, z, rfl⟩ | ⟨rfl, a, kvs, Hf, rfl, ⟨o, es, ep, kw, vw, h1, h2, h3, _⟩⟩
  · obtain ⟨t, rfl⟩ := r
    exact ⟨typeIs_str _ _ _, fun a e => nomatch e⟩
  · cases (show v = Value.ref a from r)
    have hg : s.heap.get? a = some o := (I.hok _ _ h1).1
    refine ⟨⟨o, hg, h3.1⟩, fun b e => ?_⟩
    cases e
    exact ⟨o, hg, h3.2.1⟩
def tMe (X : Cx) (T : String) (r : V → List V → Hp → VK → Prop) (to : TE) (t : TA) : TE := fun σ H Q => to σ H fun x H1 => TyM X T x H1 ∧ t σ H1 fun xs H2 => r x xs H2 Q
theorem pe_me {o e : Expr} {es : List Expr} {to : TE} {t : TA} {name : Str} {apos cpos : Pos} {T id : String} {r : V → List V → Hp → VK → Prop} (pa : PlainAttrs T) (slot : Slot T name id) (hty : typeOf (.builtin id) = pure (.type "method_descriptor")) (hm : MtR X id r) (ho : PE X o to) (ha : PA X (e :: es) t)
    (hbase : attributeBase o name X.env (eval o X.env) = eval o X.env) (hl : es.length < 20) (hline : (apos.endLine == cpos.line) = true) (am : ArgOk X e es) : PE X (.Call (.Attribute o name apos) (e :: es) [] cpos) (tMe X T r to t) := by
  refine ⟨fun pins s σ H Q I h => ?_⟩
  have hst : (backTo cpos (starEach (e :: es) X.env)).any (·.1) = false := by
    rw [am.he]
    show (false || (backTo cpos (starEach es X.env)).any (·.1)) = false
    rw [am.hpl]; rfl
  have hfew : ((backTo cpos (starEach (e :: es) X.env)).all (fun x => !x.1) && (backToKw cpos (keywordEach [] X.env)).all (fun x => x.1.isSome) && decide ((e :: es).length + ([] : List Keyword).length + (if ([] : List Keyword).isEmpty then 0 else 1) < 30)) = true := by
    have h1 : (backTo cpos (starEach (e :: es) X.env)).all (fun x => !x.1) = true := by
      rw [List.all_eq_true]
      intro x hx
      rw [List.any_eq_false] at hst
      simpa using hst x hx
    rw [h1]
    show (true && true && decide (es.length + 1 + 0 + 0 < 30)) = true
    simp
    omega
  refine wpAny_Call_method_late hbase hfew hline rfl (thn (ho.run pins s σ H _ I h) fun v s1 ⟨x, H1, I1, r1, ty, q1⟩ => ?_)
  obtain ⟨h1, h2⟩ := tyM_is I1 r1 ty
  refine ⟨T, id, pa, slot, hty, h1, h2, ?_⟩
  have hA := ha.run cpos pins s1 σ H1 _ I1 q1
  rw [am.he] at hA hst ⊢
  exact Calls.callWith_builtin hst (Calls.evalArgs_plain (thn hA fun us s2 ⟨vs, H2, I2, r2, q2⟩ => hm pins s2 σ H2 x vs v us Q I2 r1 r2 q2))
theorem base_of {o : Expr} {name : Str} {env : PySem.Env} (h : notCall0 o = true) : attributeBase o name env (eval o env) = eval o env := by
  unfold attributeBase
  split
  · cases h
  · rfl
def rGetM (X : Cx) : V → List V → Hp → VK → Prop := fun x xs H Q => ∃ a kvs Hf y k, x = .ref a ∧ Ask X H Hf a kvs y k ∧ ((xs = [y] ∧ ∀ v, Rp X.w X.K Hf v ((dGet kvs k).getD .none) → Q v H) ∨ ∃ z d, xs = [y, z] ∧ Rp X.w X.K Hf z d ∧ ∀ v, Rp X.w X.K Hf v ((dGet kvs k).getD d) → Q v H)
theorem mt_getM (hu : X.A.units + 64 < cLine) : MtR X "dict.get" (rGetM X) := by
  intro pins s σ H x xs v us Q I rx rs h
  obtain ⟨a, kvs, Hf, y, k, rfl, ak, h⟩ := h
  cases (show v = Value.ref a from rx)
  rcases h with ⟨rfl, q⟩ | ⟨z, d, rfl, rz, q⟩
  · obtain ⟨u, rfl, ru⟩ := rs.one
    exact ask_get1 hu I ak ru fun v w' s' I' r1 r2 => ⟨v, H, I', r1, q v r2⟩
  · obtain ⟨u, u', rfl, ru, ru'⟩ := rs.two
    exact ask_get2 hu I ak ru rz ru' fun v w' s' I' r1 r2 => ⟨v, H, I', r1, q v r2⟩
def rJoinM (X : Cx) : V → List V → Hp → VK → Prop := fun x xs H Q => ∃ a p, ∃ ys : List Str, x = .str a ∧ xs = [.ref p] ∧ (SqL X.K H p (ys.map V.str) ∨ SqT X.K H p (ys.map V.str)) ∧ (ys.map (·.length)).sum + ys.length * a.length ≤ 16777216 ∧ Q (.str (Txt.join a ys)) H
def rStartsM : V → List V → Hp → VK → Prop := fun x xs H Q => (∃ a b, x = .str a ∧ xs = [.str b] ∧ Q (.bl (Txt.startswith a b)) H) ∨ ∃ (a b : Str) (i : Int), x = .str a ∧ xs = [.str b, .int i] ∧ Q (.bl (Txt.startswith3 a b i)) H
theorem mt_startsM : MtR X "str.startswith" rStartsM := MtR.or mt_startswith mt_startswith3
def rSplitM : V → List V → Hp → VK → Prop := fun x xs H Q => ∃ a b, x = .str a ∧ xs = [.str b] ∧ (b.length == 0) = false ∧ a.length + 2 ≤ sizeLine ∧ rNewStrs (Txt.split a b) H Q
def meTyS : Me → String
  | .get => "dict"
  | _ => "str"
theorem meTy_of {mt : Me} {ov : Val} {x : V} {H : Hp} {p : Pt} {σ : L2.St} (s : (cfg X Γ xcl fx).sim p H σ) (rv : (cfg X Γ xcl fx).rv p H x ov) (h : meTy mt ov = true) : TyM X (meTyS mt) x H := by
  have st : (match ov.dat with | some (.str _) => true | _ => false) = true → ∃ z, x = .str z := fun h => by
    split at h
    · rename_i z e; exact ⟨z, rv.str e⟩
    · cases h
  cases mt with
  | get =>
    have h : (match ov.dat with | some (.dict _) => true | _ => false) = true := h
    split at h
    · rename_i kvs e
      obtain ⟨a, rfl, da⟩ := rv.dict s.sub e
      exact .inr ⟨rfl, a, kvs, p.Hf, rfl, da⟩
    · cases h
  | join => exact .inl ⟨rfl, st h⟩
  | replace => exact .inl ⟨rfl, st h⟩
  | split => exact .inl ⟨rfl, st h⟩
  | startswith => exact .inl ⟨rfl, st h⟩
theorem me_gen {mt : Me} {o e : Expr} {es : List Expr} {oE : E} {eE : Es} {name : Str} {apos cpos : Pos} {r : V → List V → Hp → VK → Prop} (hp : PE X (.Call (.Attribute o name apos) (e :: es) [] cpos) (tMe X (meTyS mt) r (tE (cfg X Γ xcl fx) W oE false) (tLook (cfg X Γ xcl fx) W eE)))
    (hk : meKnown mt = true) (hr : ∀ σ p H Q ov x vals vs val, (cfg X Γ xcl fx).sim p H σ → (cfg X Γ xcl fx).rv p H x ov → RVs X.w X.K p.Hf H p.L vs vals → meV mt ov vals = some val → Got (cfg X Γ xcl fx) σ p H Q val → r x vs H Q) :
    PE X (.Call (.Attribute o name apos) (e :: es) [] cpos) (tE (cfg X Γ xcl fx) W (.me mt oE eE) m) := by
  refine hp.weak fun σ H Q ⟨p, s, q⟩ => ?_
  have q : OutP ((if meKnown mt then (ev Γ oE false >>= fun x => if meTy mt x then (evb Γ eE >>= fun vs => M.of (meV mt x vs)) else M.no) else M.no) p.S) _ _ := q
  rw [if_pos hk] at q
  refine tE.intro s (outP_bind q) (fun ov x H1 p1 q1 s1 st1 rv _ => ?_) fun _ _ z => z
  split at q1
  · rename_i ht
    refine ⟨meTy_of s1 rv ht, tLook.intro s1 (outP_bind q1) (fun vals vs H2 p2 q2 s2 st2 rvs => ?_) fun _ _ z => z.step st1⟩
    obtain ⟨val, e, q2⟩ := outP_of q2
    exact hr σ p2 H2 Q ov x vals vs val s2 (rv.step st2) rvs e (Got.of (st1.trans st2) q2)
  · exact q1.elim
theorem meV_cases {mt : Me} {ov val : Val} {vals : List Val} (h : meV mt ov vals = some val) : (∃ v, vals = [v] ∧ me1 mt ov v = some val) ∨ ∃ v u, vals = [v, u] ∧ me2 mt ov v u = some val := by
  match vals, h with
  | [v], h => exact .inl ⟨v, rfl, h⟩
  | [v, u], h => exact .inr ⟨v, u, rfl, h⟩
  | [], h => cases h
  | _ :: _ :: _ :: _, h => cases h
theorem get_read {σ : L2.St} {p : Pt} {H : Hp} {Q : VK} {ov kv val : Val} {x y : V} {d : PyData} {xs : List V} (s : (cfg X Γ xcl fx).sim p H σ) (rx : (cfg X Γ xcl fx).rv p H x ov) (ry : (cfg X Γ xcl fx).rv p H y kv) (h : getDict ov kv d = some val) (g : Got (cfg X Γ xcl fx) σ p H Q val)
    (hxs : (xs = [y] ∧ d = .none) ∨ ∃ z, xs = [y, z] ∧ Rp X.w X.K p.Hf z d) : rGetM X x xs H Q := by
  unfold getDict at h
  split at h
  · rename_i kvs k' e1 e2
    split at h
    · rename_i hk
      cases h
      obtain ⟨a, rfl, da⟩ := rx.dict s.sub e1
      refine ⟨a, kvs, p.Hf, y, k', rfl, ⟨s.sub, da, ry.rp s.sub e2, hk⟩, ?_⟩
      rcases hxs with ⟨rfl, rfl⟩ | ⟨z, rfl, rz⟩
      · exact .inl ⟨rfl, fun v r => g.same s r⟩
      · exact .inr ⟨z, d, rfl, rz, fun v r => g.same s r⟩
    · cases h
  · cases h
theorem join_read {σ : L2.St} {p : Pt} {H : Hp} {Q : VK} {ov v val : Val} {x u : V} (s : (cfg X Γ xcl fx).sim p H σ) (rx : (cfg X Γ xcl fx).rv p H x ov) (ru : (cfg X Γ xcl fx).rv p H u v) (h : me1 .join ov v = some val) (g : Got (cfg X Γ xcl fx) σ p H Q val) : rJoinM X x [u] H Q := by
  have fin : ∀ {sep : Str} {a : Addr} {ws : List V} {ds : List PyData}, x = .str sep → u = .ref a → (SqL X.K H a ws ∨ SqT X.K H a ws) → RpAll X.w X.K p.Hf ws ds → joinD sep ds = some val → rJoinM X x [u] H Q := fun {sep a ws ds} ex eu hs rp h => by
    unfold joinD at h
    split at h
    · rename_i ys ey
      split at h
      · rename_i hz
        cases h
        refine ⟨sep, a, ys, ex, by rw [eu], ?_, of_decide_eq_true hz, g.flat s rfl⟩
        rw [← strs_of ey rp]; exact hs
      · cases h
    · cases h
  have h : (match ov.dat, v.dat with | some (.str sep), some (.list xs) => joinD sep xs | some (.str sep), some (.tuple xs) => joinD sep xs | _, _ => none) = some val := h
  split at h
  · rename_i sep ds e1 e2
    obtain ⟨a, ws, eu, h1, h2⟩ := ru.list s.sub e2
    exact fin (rx.str e1) eu (.inl (.inl (.inl h1))) h2 h
  · rename_i sep ds e1 e2
    obtain ⟨a, ws, eu, h1, h2⟩ := ru.tuple s.sub e2
    exact fin (rx.str e1) eu (.inr h1) h2 h
  · cases h
theorem s_me {mt : Me} {o e : Expr} {es : List Expr} {oE : E} {eE : Es} {name : Str} {apos cpos : Pos} (ok : XOk Γ xcl W N sc st k X) (hf : name = meName mt) (hl : (apos.endLine == cpos.line) = true) (hb : notCall0 o = true) (hn : es.length < 20) (hes : isEs N sc eE (e :: es) = true)
    (ho : PE X o (tE (cfg X Γ xcl fx) W oE false)) (ha : PA X (e :: es) (tLook (cfg X Γ xcl fx) W eE)) : PE X (.Call (.Attribute o name apos) (e :: es) [] cpos) (tE (cfg X Γ xcl fx) W (.me mt oE eE) m) := by
  have am : ArgOk X e es := argOk_of hes
  have hu : X.A.units + 64 < cLine := by have := ok.room.un; omega
  subst hf
  cases mt with
  | join =>
    refine me_gen (r := rJoinM X) (pe_me PySem.F.plainAttrs_str PySem.F.slot_str_join PySem.F.type_str_join mt_join ho ha (base_of hb) hn hl am) rfl fun σ p H Q ov x vals vs val s rx rvs e g => ?_
    rcases meV_cases e with ⟨v, rfl, e⟩ | ⟨v, u, rfl, e⟩
    · obtain ⟨u, rfl, ru⟩ := rvs.one
      exact join_read s rx ru e g
    · cases e
  | get =>
    refine me_gen (r := rGetM X) (pe_me PySem.F.plainAttrs_dict PySem.F.slot_dict_get PySem.F.type_dict_get (mt_getM hu) ho ha (base_of hb) hn hl am) rfl fun σ p H Q ov x vals vs val s rx rvs e g => ?_
    rcases meV_cases e with ⟨v, rfl, e⟩ | ⟨v, u, rfl, e⟩
    · obtain ⟨u, rfl, ru⟩ := rvs.one
      exact get_read s rx ru e g (.inl ⟨rfl, rfl⟩)
    · obtain ⟨y, z, rfl, ry, rz⟩ := rvs.two
      cases u with
      | d d => exact get_read s rx ry e g (.inr ⟨z, rfl, rz⟩)
      | _ => cases e
  | split =>
    refine me_gen (r := rSplitM) (pe_me PySem.F.plainAttrs_str PySem.F.slot_str_split PySem.F.type_str_split mt_split ho ha (base_of hb) hn hl am) rfl fun σ p H Q ov x vals vs val s rx rvs e g => ?_
    rcases meV_cases e with ⟨v, rfl, e⟩ | ⟨v, u, rfl, e⟩
    · obtain ⟨u, rfl, ru⟩ := rvs.one
      have h : (match ov.dat, v.dat with | some (.str x), some (.str y) => (if (y.length == 0) = false ∧ x.length + 2 ≤ sizeLine then some (Val.ol ((Txt.split x y).map .str)) else none) | _, _ => none) = some val := e
      split at h
      · rename_i a b e1 e2
        split at h
        · rename_i hz
          cases h
          refine ⟨a, b, rx.str e1, by rw [ru.str e2], hz.1, hz.2, fun q hq => g.lst s ?_ q hq⟩
          generalize Txt.split a b = ys
          induction ys with
          | nil => exact .nil
          | cons y ys ih => exact .cons (.str y) (ih)
        · cases h
      · cases h
    · cases e
  | startswith =>
    refine me_gen (r := rStartsM) (pe_me PySem.F.plainAttrs_str PySem.F.slot_str_startswith PySem.F.type_str_startswith mt_startsM ho ha (base_of hb) hn hl am) rfl fun σ p H Q ov x vals vs val s rx rvs e g => ?_
    rcases meV_cases e with ⟨v, rfl, e⟩ | ⟨v, u, rfl, e⟩
    · obtain ⟨u, rfl, ru⟩ := rvs.one
      have h : (match ov.dat, v.dat with | some (.str x), some (.str y) => some (bl (Txt.startswith x y)) | _, _ => none) = some val := e
      split at h
      · rename_i a b e1 e2
        cases h
        exact .inl ⟨a, b, rx.str e1, by rw [ru.str e2], g.flat s rfl⟩
      · cases h
    · obtain ⟨y, z, rfl, ry, rz⟩ := rvs.two
      have h : (match ov.dat, v.dat, u.dat with | some (.str x), some (.str y), some (.int i) => some (bl (Txt.startswith3 x y i)) | _, _, _ => none) = some val := e
      split at h
      · rename_i a b i e1 e2 e3
        cases h
        exact .inr ⟨a, b, i, rx.str e1, by rw [ry.str e2, rz.int e3], g.flat s rfl⟩
      · cases h
  | replace =>
    refine pe_false fun σ H Q ⟨p, s, q⟩ => ?_
    exact (show OutP ((M.no : M Val) p.S) _ _ from q).elim
end
end Mini

set_option Elab.async false
set_option linter.all false
set_option maxRecDepth 100000
set_option maxHeartbeats 2000000
namespace Mini
open PySem PySem.Spec PyProof.Rows L2
section
variable {X : Cx} {Γ : Env} {xcl : Str → Option Addr} {fx : Fx} {W : WX} {N : List Str} {sc : Scope} {st : Str → Bool} {k : Nat} {pos : Pos} {m : Bool}
/-! ### calls of the text's defs -/
theorem run_fnG {f : Addr} {fd : FuncData} {ps : List Str} {sp : Sp} {E : XK} {pins : List (Addr × Obj)} {σ : L2.St} {H : Hp} {s : Shared} {Q : VK} {us : List Value} {vs : List V} (F : FnG X.prog X.w X.K X.mg X.base k f fd ps sp) (hr : Room k X.A) (hg : X.A.guards = some [])
    (hb : Binds X.K fd ps []) (hx : PassesAt (L2.CX X.prog X.w) X σ E) (I : Inv X pins σ H s) (r : Vals vs us) (h : sp vs H Q E) : wpAny (model X.prog X.w) X.A (call (.ref f) us) (EP X pins σ Q) X.xe s := by
  have hl : us.length = ps.length := by rw [← r.length]; exact F.len _ _ _ _ h
  have hbt : BindsTo s fd ⟨us, []⟩ (ps.zip us) := by
    have := hb s us I.kIn (by rw [List.append_nil]; exact hl)
    rwa [List.append_nil] at this
  refine wpAny_call (codeAny_mono (F.run X.A X.stack s H ⟨us, []⟩ us vs Q E hr hg I.env0 hbt r h) fun o s' hq => ?_)
  cases o with
  | error e => exact hx pins H s e s' I hq
  | ok fl =>
    cases fl with
    | ret u => exact I.after hq
    | next => exact False.elim hq
    | brk => exact False.elim hq
    | cont => exact False.elim hq
def tCallG (sp : Sp) (W : WX) (t : TA) : TE := fun σ H Q => t σ H fun vs H1 => sp vs H1 Q (WE W σ)
theorem pe_callG {f : Addr} {fd : FuncData} {ps : List Str} {sp : Sp} {x : Str} {p : Pos} {e : Expr} {es : List Expr} {t : TA} (F : FnG X.prog X.w X.K X.mg X.base k f fd ps sp) (hr : Room k X.A) (hg : X.A.guards = some []) (hx : Gl X x) (hm : X.mg x = some (.ref f)) (hk : PySem.W.keepIn X.K (.ref f) = true)
    (hb : Binds X.K fd ps []) (tk : Takes X W) (ha : PA X (e :: es) t) (hdb : (x == ("__debug__" : Str)) = false) (am : ArgOk X e es) : PE X (.Call (.Name x p) (e :: es) [] pos) (tCallG sp W t) := by
  refine ⟨fun pins s σ H Q I h => ?_⟩
  refine wpAny_Call_Name_kw (ld_glob I hx hm ?_ hdb)
  exact PySem.W.callWith_K (h₀ := X.base) I.ok.mod.kin hk (thn (ha.run pos pins s σ H _ I h) fun us s1 ⟨vs, H1, I1, r, q⟩ => ⟨I1.kIn, run_fnG F hr hg hb (passAt tk σ) I1 r q⟩) am.he (am.hpl pos)
/-- behind a call: where the caller stands -/
theorem call_back {c : Cfg} {σ : L2.St} {p : Pt} {H Hf' H' : Hp} {L' : Loc3} {dr' : Option Draw} (s : c.sim p H σ) (cp : CallPost p.Hf H p.L Hf' H' L' dr') : c.sim ⟨{ p.S with dr := dr' }, Hf', L'⟩ H' σ ∧ Step p H ⟨{ p.S with dr := dr' }, Hf', L'⟩ H' σ := by
  have st : Step p H ⟨{ p.S with dr := dr' }, Hf', L'⟩ H' σ := ⟨cp.hf, cp.keep, cp.ex, fun b o h => (cp.nf b o h).imp id .inl, fun b h => h, cp.drA, cp.drk, cp.l⟩
  refine ⟨⟨cp.sub, s.len, fun i v h => ?_, fun b h => ?_, s.apart, cp.dr, fun b h => ?_, fun b h => ?_, fun b o h n => ?_, fun b o h => ?_, s.hf0.trans cp.hf, fun b o h => ?_, s.l0.trans cp.l⟩, st⟩
  · obtain ⟨u, h1, h2⟩ := s.slot i v h
    exact ⟨u, h1, RV.step (p := ⟨p.S, p.Hf, p.L⟩) (p1 := ⟨{ p.S with dr := dr' }, Hf', L'⟩) st h2⟩
  · obtain ⟨⟨o, e⟩, _⟩ := s.slotSome h
    obtain ⟨n1, n2⟩ := s.own b h
    refine ⟨?_, n2⟩
    show Hf' b = none
    cases z : Hf' b with
    | none => rfl
    | some x =>
      rcases cp.nf b x z with y | y
      · rw [n1] at y; cases y
      · rw [e] at y; cases y
  · rcases cp.drk b h with z | z
    · exact s.dr0 b z
    · exact .inr (s.h0 z)
  · rcases cp.drA b h with z | z
    · exact s.drA b z
    · exact .inr (s.h0 z)
  · have h1 := s.base b o h n
    refine cp.keep b o h1 fun z => ?_
    rcases s.dr0 b z with y | y
    · exact n y
    · rw [h] at y; cases y
  · rcases cp.nf b o h with z | z
    · exact s.newf b o z
    · exact .inr (s.h0 z)
  · obtain ⟨o', e⟩ := s.ex0 b o h
    exact cp.ex b o' e
theorem s_call {f : Str} {p : Pos} {x : Expr} {xs : List Expr} {es : Es} (ok : XOk Γ xcl W N sc st k X) (hgl : glB sc f = true) (hes : isEs N sc es (x :: xs) = true) (ha : PA X (x :: xs) (tArgs (cfg X Γ xcl fx) W es)) :
    PE X (.Call (.Name f p) (x :: xs) [] pos) (tE (cfg X Γ xcl fx) W (.call f es) m) := by
  obtain ⟨hg, hd, hn⟩ := gl_of ok hgl
  have am : ArgOk X x xs := argOk_of hes
  by_cases hne : Γ.has f = true
  · obtain ⟨fa, fd, ps, hm, hk, hb, hl, F⟩ := ok.G.fn f hne
    refine (pe_callG F ok.room ok.gd hg hm hk hb ok.tk ha hd am).weak fun σ H Q ⟨p, s, q⟩ => ?_
    have q : OutP ((if Γ.has f then (evs Γ es >>= fun vs => callM Γ.fns f vs) else M.no) p.S) _ _ := q
    rw [if_pos hne] at q
    refine tArgs.intro s (outP_bind q) (fun vals vs H1 p1 q1 s1 st1 rvs hos => ?_) fun _ _ z => z
    have q1 : OutP (match Γ.fns f vals p1.S.dr with | .ok v dr => Out.ok v { p1.S with dr := dr } | .er e dr => Out.er e { p1.S with dr := dr } | .no => Out.no) _ _ := q1
    have hlen : vs.length = ps.length := by
      rw [rvs.length]
      exact hl vals p1.S.dr fun z => by rw [z] at q1; exact q1
    refine ⟨hlen, p1.Hf, p1.L, p1.S.dr, vals, s1.sub, s1.dr, rvs, hos, ?_⟩
    cases er : Γ.fns f vals p1.S.dr with
    | no => rw [er] at q1; exact q1
    | ok v dr' =>
      rw [er] at q1
      intro u H' Hf' L' cp rv fr
      obtain ⟨s2, st2⟩ := call_back (c := cfg X Γ xcl fx) s1 cp
      exact q1 u H' ⟨{ p1.S with dr := dr' }, Hf', L'⟩ rfl s2 (st1.trans st2) rv fun _ z => let ⟨a, e1, e2, e3⟩ := fr z; ⟨a, e1, st1.none_of e2, e3⟩
    | er e dr' =>
      rw [er] at q1
      intro cls d H' Hf' L' cp xr
      obtain ⟨s2, st2⟩ := call_back (c := cfg X Γ xcl fx) s1 cp
      exact q1 cls d H' ⟨{ p1.S with dr := dr' }, Hf', L'⟩ rfl s2 ((st1.trans st2).hf) ((st1.trans st2).l) xr
  · refine pe_false fun σ H Q ⟨p, s, q⟩ => ?_
    have q : OutP ((if Γ.has f then (evs Γ es >>= fun vs => callM Γ.fns f vs) else M.no) p.S) _ _ := q
    rw [if_neg hne] at q
    exact q
end
end Mini

set_option Elab.async false
set_option linter.all false
set_option maxRecDepth 100000
set_option maxHeartbeats 2000000
namespace Mini
open PySem PySem.Spec PyProof.Rows L2
/-! ### iterables -/
/-- J walks through the data xs, while what is put away in Hf stands -/
structure Iter (w : World) (K : PySem.W.Frag) (Hf : Hp) (J : It) (xs : List PyData) : Prop where
  ex : ∃ Y, Walk J xs.length (fun H => Same Hf H) Y ∧ ∀ (i : Nat) (x : PyData) (H : Hp) (v : V) (H' : Hp), Same Hf H → xs[i]? = some x → Y i H v H' →
    (H' = H ∧ Rp w K Hf v x) ∨ ∃ T ws ds, v = .ref T ∧ H T = none ∧ H' = upd H T (.tup ws) ∧ RpAll w K Hf ws ds ∧ x = .tuple ds
theorem Iter.mono {w : World} {K : PySem.W.Frag} {Hf Hf' : Hp} {J : It} {xs : List PyData} (e : Same Hf Hf') (h : Iter w K Hf J xs) : Iter w K Hf' J xs := by
  obtain ⟨Y, wk, hy⟩ := h.ex
  refine ⟨Y, wk.mono (fun H s => e.trans s) fun i H x H' _ _ y => y, fun i x H v H' s ex y => ?_⟩
  rcases hy i x H v H' (e.trans s) ex y with ⟨h1, h2⟩ | ⟨T, ws, ds, h1, h2, h3, h4, h5⟩
  · exact .inl ⟨h1, Rp.mono e _ _ h2⟩
  · exact .inr ⟨T, ws, ds, h1, h2, h3, RpAll.mono e _ _ h4, h5⟩
def tI (c : Cfg) (W : WX) (it : Itr) : TI := fun σ H R => ∃ p, c.sim p H σ ∧
  OutP (evi c.Γ it p.S) (fun xs S' => ∀ J H' p', p'.S = S' → c.sim p' H' σ → Step p H p' H' σ → Iter c.w c.K p'.Hf J xs → R J H') (EW c W σ p)
theorem _root_.L2.PI.weak {X : Cx} {tg e : Expr} {t t' : TI} (h : PI X tg e t) (i : ∀ σ H R, t' σ H R → t σ H R) : PI X tg e t' := ⟨fun pins s σ H R I q => h.run pins s σ H R I (i σ H R q)⟩
theorem _root_.L2.PI.or {X : Cx} {tg e : Expr} {t t' : TI} (h : PI X tg e t) (h' : PI X tg e t') : PI X tg e (fun σ H R => t σ H R ∨ t' σ H R) := ⟨fun pins s σ H R I q => q.elim (h.run pins s σ H R I) (h'.run pins s σ H R I)⟩
theorem pi_false {X : Cx} {tg e : Expr} {t : TI} (h : ∀ σ H R, ¬ t σ H R) : PI X tg e t := ⟨fun _ _ σ H R _ q => (h σ H R q).elim⟩
section
variable {w : World} {K : PySem.W.Frag} {Hf : Hp} {a : Addr} {vs : List V} {xs : List PyData}
theorem iter_at {J : It} (wk : Walk J xs.length (fun H => Same Hf H) (YAt vs)) (r : RpAll w K Hf vs xs) : Iter w K Hf J xs :=
  ⟨_, wk, fun i x H v H' _ ex y => by
    obtain ⟨e, ev⟩ := y
    obtain ⟨d, e1, e2⟩ := r.get' ev
    rw [ex] at e1
    cases e1
    exact .inl ⟨e, e2⟩⟩
theorem iter_list (h : Hf a = some (.lst vs)) (r : RpAll w K Hf vs xs) : Iter w K Hf (Itl K a) xs :=
  iter_at (by rw [← r.length]; exact walk_list.mono (fun H s => .inl (.inl (s _ _ h))) fun _ _ _ _ _ _ y => y) r
theorem iter_sq (h : SqL K Hf a vs) (r : RpAll w K Hf vs xs) : Iter w K Hf (Itl K a) xs :=
  iter_at (by rw [← r.length]; exact walk_list.mono (fun H s => SqL.same s h) fun _ _ _ _ _ _ y => y) r
theorem iter_tup (h : SqT K Hf a vs) (r : RpAll w K Hf vs xs) : Iter w K Hf (Itt K a) xs :=
  iter_at (by rw [← r.length]; exact walk_tup.mono (fun H s => SqT.same s h) fun _ _ _ _ _ _ y => y) r
theorem iter_str (z : Str) : Iter w K Hf (Its z) (signsL z) := by
  have hl : (signsL z).length = z.cps.size := by unfold signsL; rw [List.length_map, Array.length_toList]
  refine ⟨_, by rw [hl]; exact walk_str.mono (fun _ _ => trivial) fun _ _ _ _ _ _ y => y, fun i x H v H' _ ex y => ?_⟩
  obtain ⟨e, c, ec, rfl⟩ := y
  refine .inl ⟨e, ?_⟩
  unfold signsL at ex
  rw [List.getElem?_map, Array.getElem?_toList, ec] at ex
  cases ex
  exact .str _
theorem iter_range (lo hi : Int) : Iter w K Hf (L2.Itr lo (hi - lo).toNat) (rngL lo hi) := by
  have hl : (rngL lo hi).length = (hi - lo).toNat := by unfold rngL; rw [List.length_map, List.length_range]
  refine ⟨_, by rw [hl]; exact walk_range.mono (fun _ _ => trivial) fun _ _ _ _ _ _ y => y, fun i x H v H' _ ex y => ?_⟩
  obtain ⟨e, rfl⟩ := y
  refine .inl ⟨e, ?_⟩
  unfold rngL at ex
  rw [List.getElem?_map] at ex
  obtain ⟨k, e1, rfl⟩ := Option.map_eq_some_iff.mp ex
  have ek : k = i := by
    rw [List.getElem?_eq_some_iff] at e1
    obtain ⟨_, e1⟩ := e1
    rw [← e1]; simp
  subst ek
  exact .int _
end
section
variable {X : Cx} {Γ : Env} {xcl : Str → Option Addr} {fx : Fx} {W : WX} {N : List Str} {sc : Scope} {st : Str → Bool} {k : Nat} {pos : Pos} {m : Bool}
theorem i_pl {a : E} {x tg : Expr} (ha : PE X x (tE (cfg X Γ xcl fx) W a true)) : PI X tg x (tI (cfg X Γ xcl fx) W (.pl a)) := by
  refine ((pi_list ha).or ((pi_tup ha).or (pi_str ha))).weak fun σ H R ⟨p, s, q⟩ => ?_
  have q : OutP ((ev Γ a true >>= fun v => frzM v >>= fun v' => M.of (itemsV v')) p.S) _ _ := q
  have q := outP_mono (outP_bind q) (fun v S1 z => outP_bind z) fun _ _ z => z
  -- which of the three it is, is seen from what comes of it
  cases er : ev Γ a true p.S with
  | no => rw [er] at q; exact q.elim
  | er err S' =>
    refine .inl ⟨p, s, ?_⟩
    rw [er] at q
    show OutP (ev Γ a true p.S) _ _
    rw [er]; exact q
  | ok val S' =>
    rw [er] at q
    obtain ⟨wal, ew, q⟩ := outP_of (show OutP (M.of val.frz S') _ _ from q)
    obtain ⟨xs, ex, q⟩ := outP_of q
    have go : ∀ {Q : VK}, (∀ v H' p', p'.S = S' → (cfg X Γ xcl fx).sim p' H' σ → Step p H p' H' σ → (cfg X Γ xcl fx).rv p' H' v wal → Q v H') → tE (cfg X Γ xcl fx) W a true σ H Q := fun {Q} hq => by
      refine ⟨p, s, ?_⟩
      show OutP (ev Γ a true p.S) _ _
      rw [er]
      intro v H' p' e s' st' rv fr
      obtain ⟨p2, e2, s2, st2, rv2, ho, _⟩ := Sim.frzNew s' st' s rv ew (fr rfl)
      exact hq v H' p2 (e2.trans e) s2 st2 rv2
    unfold itemsV at ex
    split at ex
    · cases ex
      refine .inl (go fun v H' p' e s' st' rv => ?_)
      cases rv with
      | lst h1 h2 => exact ⟨_, rfl, ⟨_, .inl (.inl (s'.sub _ _ h1))⟩, q _ H' p' e s' st' (iter_list h1 h2)⟩
    · cases ex
      refine .inr (.inl (go fun v H' p' e s' st' rv => ?_))
      cases rv with
      | tup h1 h2 => exact ⟨_, rfl, ⟨_, SqT.same s'.sub h1⟩, q _ H' p' e s' st' (iter_tup h1 h2)⟩
    · cases ex
      refine .inr (.inr (go fun v H' p' e s' st' rv => ?_))
      cases rv
      exact ⟨_, rfl, q _ H' p' e s' st' (iter_str _)⟩
    · cases ex
      refine .inl (go fun v H' p' e s' st' rv => ?_)
      obtain ⟨a, rfl, h1⟩ := rv
      exact ⟨_, rfl, ⟨_, SqL.same s'.sub h1⟩, q _ H' p' e s' st' (iter_sq h1 (ints_rp _))⟩
    · cases ex
theorem rngOk_of {i : Int} (h : rngOk i = true) : -(2 ^ 62) ≤ i ∧ i < 2 ^ 62 := by
  unfold rngOk at h
  simpa using h
theorem i_rng1 {a : E} {x tg : Expr} {p0 : Pos} (ok : XOk Γ xcl W N sc st k X) (hg : glB sc "range" = true) (hx : notStar x = true) (ha : PE X x (tE (cfg X Γ xcl fx) W a false)) : PI X tg (.Call (.Name "range" p0) [x] [] pos) (tI (cfg X Γ xcl fx) W (.rng1 a)) := by
  obtain ⟨g1, g2, g3⟩ := gl_of ok hg
  have st1 : starEach [x] X.env = [(false, eval x X.env)] := star_cons [] X.env hx
  refine (pi_range1 g1 (ok.G.bt _ (by decide)) (pa_cons ha pa_nil st1) st1).weak fun σ H R ⟨p, s, q⟩ => ?_
  have q : OutP ((ev Γ a false >>= fun x => match x with | .d (.int n) => (if rngOk n then pure (rngL 0 n) else M.no) | _ => M.no) p.S) _ _ := q
  refine tE.intro s (outP_bind q) (fun val v H1 p1 q1 s1 st1 rv _ => ?_) fun _ _ z => z
  obtain ⟨n, rfl, rfl, q1⟩ := int_of (f := fun n => if rngOk n then pure (rngL 0 n) else M.no) rv q1
  split at q1
  · rename_i hn
    obtain ⟨h1, h2⟩ := rngOk_of hn
    refine ⟨n, rfl, h1, h2, ?_⟩
    have := outP_pure q1 (L2.Itr 0 (n - 0).toNat) H1 p1 rfl s1 st1 (iter_range 0 n)
    rwa [Int.sub_zero] at this
  · exact q1.elim
theorem i_rng2 {a b : E} {x y tg : Expr} {p0 : Pos} (ok : XOk Γ xcl W N sc st k X) (hg : glB sc "range" = true) (hx : notStar x = true) (hy : notStar y = true) (ha : PE X x (tE (cfg X Γ xcl fx) W a false)) (hb : PE X y (tE (cfg X Γ xcl fx) W b false)) :
    PI X tg (.Call (.Name "range" p0) [x, y] [] pos) (tI (cfg X Γ xcl fx) W (.rng2 a b)) := by
  obtain ⟨g1, g2, g3⟩ := gl_of ok hg
  have st2 : starEach [y] X.env = [(false, eval y X.env)] := star_cons [] X.env hy
  have st1 : starEach [x, y] X.env = (false, eval x X.env) :: starEach [y] X.env := star_cons [y] X.env hx
  refine (pi_range2 g1 (ok.G.bt _ (by decide)) (pa_cons ha (pa_cons hb pa_nil st2) st1) (by rw [st1, st2]) st2).weak fun σ H R ⟨p, s, q⟩ => ?_
  have q : OutP ((ev Γ a false >>= fun x => match x with | .d (.int i) => (ev Γ b false >>= fun y => match y with | .d (.int j) => (if rngOk i && rngOk j then pure (rngL i j) else M.no) | _ => M.no) | _ => M.no) p.S) _ _ := q
  refine tE.intro s (outP_bind q) (fun val v H1 p1 q1 s1 st1 rv _ => ?_) fun _ _ z => z
  obtain ⟨i, rfl, rfl, q1⟩ := int_of (f := fun i => ev Γ b false >>= fun y => match y with | .d (.int j) => (if rngOk i && rngOk j then pure (rngL i j) else M.no) | _ => M.no) rv q1
  refine tE.intro s1 (outP_bind q1) (fun val v H2 p2 q2 s2 st2 rv _ => ?_) fun _ _ z => z.step st1
  obtain ⟨j, rfl, rfl, q2⟩ := int_of (f := fun j => if rngOk i && rngOk j then pure (rngL i j) else M.no) rv q2
  split at q2
  · rename_i hn
    rw [Bool.and_eq_true] at hn
    obtain ⟨h1, h2⟩ := rngOk_of hn.1
    obtain ⟨h3, h4⟩ := rngOk_of hn.2
    exact ⟨i, j, rfl, ⟨h1, h2, h3, h4⟩, outP_pure q2 _ H2 p2 rfl s2 (st1.trans st2) (iter_range i j)⟩
  · exact q2.elim
end
end Mini

set_option Elab.async false
set_option linter.all false
set_option maxRecDepth 100000
set_option maxHeartbeats 2000000
namespace Mini
open PySem PySem.Spec PyProof.Rows L2
/-! ### targets -/
/-- a value that no name holds alone -/
def NewV (c : Cfg) (p : Pt) (σ : L2.St) (v : V) (val : Val) : Prop := val.owned = true → ∃ a, v = .ref a ∧ p.Hf a = none ∧ c.fx.H0 a = none ∧ ∀ (j : Nat) u, p.S.ρ[j]? = some (some u) → u.owned = true → σ[j]? = some (some (.ref a)) → False
theorem NewV.data {c : Cfg} {p : Pt} {σ : L2.St} {v : V} {x : PyData} : NewV c p σ v (.d x) := fun z => nomatch z
theorem NewV.fresh {c : Cfg} {p p' : Pt} {σ : L2.St} {v : V} {val : Val} {H H' : Hp} (s : c.sim p H σ) (st : Step p H p' H' σ) (h : Fresh H p' v val) : NewV c p' σ v val := fun z => by
  obtain ⟨a, e, h1, h2⟩ := h z
  refine ⟨a, e, h2, s.h0 h1, fun j u q1 q2 q3 => ?_⟩
  obtain ⟨⟨o, e2⟩, _⟩ := s.slotSome (st.so a ⟨j, u, q1, q2, q3⟩)
  rw [h1] at e2; cases e2
structure Asg (own : Bool) (c : Cfg) (p : Pt) (σ : L2.St) (H : Hp) (vs : List Nat) (p' : Pt) (σ' : L2.St) : Prop where
  sim : c.sim p' H σ'
  hf : p'.Hf = p.Hf
  l : p'.L = p.L
  len : σ'.length = σ.length
  rest : ∀ i, i ∉ vs → σ'[i]? = σ[i]?
  so : ∀ b, (∀ i ∈ vs, ∀ v, p'.S.ρ[i]? = some (some v) → v.owned = false) → SlotOwn p' σ' b → SlotOwn p σ b
  rho : ∀ i, i ∉ vs → p'.S.ρ[i]? = p.S.ρ[i]?
  rlen : p'.S.ρ.length = p.S.ρ.length
  dr : p'.S.dr = p.S.dr
  pl : ∀ i ∈ vs, ∀ v, p'.S.ρ[i]? = some (some v) → v.owned = true → own = true
theorem Asg.trans {own : Bool} {c : Cfg} {p p' p'' : Pt} {σ σ' σ'' : L2.St} {H : Hp} {vs ws : List Nat} (h : Asg own c p σ H vs p' σ') (h2 : Asg own c p' σ' H ws p'' σ'') : Asg own c p σ H (vs ++ ws) p'' σ'' where
  sim := h2.sim
  hf := h2.hf.trans h.hf
  l := h2.l.trans h.l
  len := h2.len.trans h.len
  rest := fun i hi => (h2.rest i fun z => hi (List.mem_append_right _ z)).trans (h.rest i fun z => hi (List.mem_append_left _ z))
  so := fun b hv ⟨i, v, q1, q2, q3⟩ => by
    by_cases hi : i ∈ vs ++ ws
    · rw [hv i hi v q1] at q2; cases q2
    · have n1 : i ∉ vs := fun z => hi (List.mem_append_left _ z)
      have n2 : i ∉ ws := fun z => hi (List.mem_append_right _ z)
      exact ⟨i, v, by rw [← h.rho i n1, ← h2.rho i n2]; exact q1, q2, by rw [← h.rest i n1, ← h2.rest i n2]; exact q3⟩
  rho := fun i hi => (h2.rho i fun z => hi (List.mem_append_right _ z)).trans (h.rho i fun z => hi (List.mem_append_left _ z))
  rlen := h2.rlen.trans h.rlen
  dr := h2.dr.trans h.dr
  pl := fun i hi v e o => by
    by_cases hw : i ∈ ws
    · exact h2.pl i hw v e o
    · rcases List.mem_append.mp hi with z | z
      · exact h.pl i z v (by rw [← h2.rho i hw]; exact e) o
      · exact absurd z hw
def gT (c : Cfg) (tg : Tg) : TG := fun v σ H Q => ∃ p val, c.sim p H σ ∧ c.rv p H v val ∧ NewV c p σ v val ∧
  OutP (asgT tg val p.S) (fun _ S' => ∀ σ' p', p'.S = S' → Asg val.owned c p σ H (tgSlots tg) p' σ' → Q σ' H) (fun _ _ => False)
theorem _root_.L2.PG.weak {X : Cx} {e : Expr} {t t' : TG} (h : PG X e t) (i : ∀ v σ H Q, t' v σ H Q → t v σ H Q) : PG X e t' := ⟨fun pins s σ H v u Q I r q => h.run pins s σ H v u Q I r (i v σ H Q q)⟩
section
variable {X : Cx} {Γ : Env} {xcl : Str → Option Addr} {fx : Fx} {W : WX} {N : List Str} {sc : Scope} {st : Str → Bool} {k : Nat} {pos : Pos} {m : Bool}
theorem loc_of {i : Nat} {x : Str} (ok : XOk Γ xcl W N sc st k X) (h : locB N sc st i x = true) : X.N[i]? = some x ∧ Loc X.env.scope x ∧ (X.fn x = true ∨ X.env.scope.names.lookup x = some .local) := by
  unfold locB at h
  simp only [Bool.and_eq_true, decide_eq_true_eq] at h
  obtain ⟨⟨h1, h2⟩, h3⟩ := h
  refine ⟨by rw [ok.hN]; exact h1, ?_, ?_⟩
  · rw [ok.sc]
    split at h3
    · rename_i e; exact .inl e
    · rename_i e; exact .inr e
    · cases h3
  · split at h3
    · rename_i e
      right
      rw [ok.sc]; exact e
    · exact ok.hst x h3
    · cases h3
theorem g_nm {i : Nat} {x : Str} (ok : XOk Γ xcl W N sc st k X) (h : locB N sc st i x = true) : PG X (.Name x pos) (gT (cfg X Γ xcl fx) (.nm i x)) := by
  obtain ⟨h1, h2, h3⟩ := loc_of ok h
  refine (pg_name (by rw [ok.hN]; exact ok.nd) h1 h2 h3).weak fun v σ H Q ⟨p, val, s, rv, nv, q⟩ => ?_
  have q : OutP (setSlot i val p.S) _ _ := q
  unfold setSlot at q
  split at q
  · rename_i hi
    refine q (σ.set i (some v)) { p with S := { p.S with ρ := p.S.ρ.set i (some val) } } rfl ⟨?_, rfl, rfl, by rw [List.length_set], fun j hj => ?_, fun b hv ⟨j, u, q1, q2, q3⟩ => ?_, fun j hj => ?_, ?_, rfl, fun j hj u e o => ?_⟩
    · refine s.set rv hi fun z => ?_
      obtain ⟨a, e, n1, n2, n3⟩ := nv z
      exact ⟨a, e, n1, n2, fun j u q1 q2 q3 => (n3 j u q1 q2 q3).elim⟩
    · have hj : j ≠ i := fun z => hj (by rw [z]; exact List.mem_singleton.mpr rfl)
      rw [List.getElem?_set_ne (Ne.symm hj)]
    · have q1 : (p.S.ρ.set i (some val))[j]? = some (some u) := q1
      rcases getSet q1 with ⟨e, e2, _⟩ | ⟨e, q1'⟩
      · have := hv i (List.mem_singleton.mpr rfl) val (show (p.S.ρ.set i (some val))[i]? = some (some val) from List.getElem?_set_self hi)
        rw [e2, this] at q2; cases q2
      · rw [List.getElem?_set_ne (Ne.symm e)] at q3
        exact ⟨j, u, q1', q2, q3⟩
    · have hj : j ≠ i := fun z => hj (by rw [z]; exact List.mem_singleton.mpr rfl)
      show (p.S.ρ.set i (some val))[j]? = _
      rw [List.getElem?_set_ne (Ne.symm hj)]
    · show (p.S.ρ.set i (some val)).length = _
      rw [List.length_set]
    · have hj : j = i := List.mem_singleton.mp hj
      rw [hj] at e
      have e : (p.S.ρ.set i (some val))[i]? = some (some u) := e
      rw [List.getElem?_set_self hi] at e
      cases e
      exact o
  · exact q.elim
theorem tup_of {ds : List PyData} {p : Pt} {H : Hp} {σ : L2.St} {v : V} (s : (cfg X Γ xcl fx).sim p H σ) (rv : (cfg X Γ xcl fx).rv p H v (.d (.tuple ds))) : ∃ a vs, v = .ref a ∧ SqT X.K H a vs ∧ RpAll X.w X.K p.Hf vs ds := RV.tuple s.sub rv rfl
/-- one target behind another -/
theorem then_tg {c : Cfg} {a : Tg} {r : TGs} {p : Pt} {H : Hp} {σ : L2.St} {v : V} {vr : List V} {x : PyData} {Q : L2.St → Hp → Prop} {kk : Unit → Sta → Prop} (s : c.sim p H σ) (rv : Rp c.w c.K p.Hf v x) (q : OutP (asgT a (.d x) p.S) kk (fun _ _ => False))
    (h : ∀ σ' p', kk () p'.S → Asg false c p σ H (tgSlots a) p' σ' → r vr σ' H Q) : gCons (gT c a) r (v :: vr) σ H Q :=
  ⟨v, vr, rfl, p, .d x, s, rv, NewV.data, outP_mono q (fun _ S' z σ' p' e as => h σ' p' (by rw [e]; exact z) as) fun _ _ z => z⟩
theorem isTg_each {a : Tg} {e : Expr} (h : isTg N sc st a e = true) (es : List Expr) (env : PySem.Env) : assignEach (e :: es) env = (false, assign e env) :: assignEach es env := by
  cases a <;> (cases e <;> first | rfl | cases h)
theorem asg1 {a : Tg} {val : Val} {S : Sta} {kk : Unit → Sta → Prop} {ke : Err → Sta → Prop} (q : OutP (asgT (.tp1 a) val S) kk ke) : ∃ x, val = .d (.tuple [x]) ∧ OutP (asgT a (.d x) S) kk ke := by
  match val, q with
  | .d (.tuple [x]), q => exact ⟨x, rfl, q⟩
  | .d (.tuple []), q => exact q.elim
  | .d (.tuple (_ :: _ :: _)), q => exact q.elim
  | .d .none, q => exact q.elim
  | .d (.bool _), q => exact q.elim
  | .d (.int _), q => exact q.elim
  | .d (.str _), q => exact q.elim
  | .d (.list _), q => exact q.elim
  | .d (.dict _), q => exact q.elim
  | .ol _, q => exact q.elim
  | .od _, q => exact q.elim
  | .os _, q => exact q.elim
  | .drw, q => exact q.elim
  | .scr _, q => exact q.elim
  | .er _ _, q => exact q.elim
theorem asg2 {a b : Tg} {val : Val} {S : Sta} {kk : Unit → Sta → Prop} {ke : Err → Sta → Prop} (q : OutP (asgT (.tp2 a b) val S) kk ke) : ∃ x y, val = .d (.tuple [x, y]) ∧ OutP ((asgT a (.d x) >>= fun _ => asgT b (.d y)) S) kk ke := by
  match val, q with
  | .d (.tuple [x, y]), q => exact ⟨x, y, rfl, q⟩
  | .d (.tuple []), q => exact q.elim
  | .d (.tuple [_]), q => exact q.elim
  | .d (.tuple (_ :: _ :: _ :: _)), q => exact q.elim
  | .d .none, q => exact q.elim
  | .d (.bool _), q => exact q.elim
  | .d (.int _), q => exact q.elim
  | .d (.str _), q => exact q.elim
  | .d (.list _), q => exact q.elim
  | .d (.dict _), q => exact q.elim
  | .ol _, q => exact q.elim
  | .od _, q => exact q.elim
  | .os _, q => exact q.elim
  | .drw, q => exact q.elim
  | .scr _, q => exact q.elim
  | .er _ _, q => exact q.elim
theorem asg3 {a b c : Tg} {val : Val} {S : Sta} {kk : Unit → Sta → Prop} {ke : Err → Sta → Prop} (q : OutP (asgT (.tp3 a b c) val S) kk ke) : ∃ x y z, val = .d (.tuple [x, y, z]) ∧ OutP ((asgT a (.d x) >>= fun _ => asgT b (.d y) >>= fun _ => asgT c (.d z)) S) kk ke := by
  match val, q with
  | .d (.tuple [x, y, z]), q => exact ⟨x, y, z, rfl, q⟩
  | .d (.tuple []), q => exact q.elim
  | .d (.tuple [_]), q => exact q.elim
  | .d (.tuple [_, _]), q => exact q.elim
  | .d (.tuple (_ :: _ :: _ :: _ :: _)), q => exact q.elim
  | .d .none, q => exact q.elim
  | .d (.bool _), q => exact q.elim
  | .d (.int _), q => exact q.elim
  | .d (.str _), q => exact q.elim
  | .d (.list _), q => exact q.elim
  | .d (.dict _), q => exact q.elim
  | .ol _, q => exact q.elim
  | .od _, q => exact q.elim
  | .os _, q => exact q.elim
  | .drw, q => exact q.elim
  | .scr _, q => exact q.elim
  | .er _ _, q => exact q.elim
theorem asg4 {a b c d : Tg} {val : Val} {S : Sta} {kk : Unit → Sta → Prop} {ke : Err → Sta → Prop} (q : OutP (asgT (.tp4 a b c d) val S) kk ke) : ∃ x y z u, val = .d (.tuple [x, y, z, u]) ∧ OutP ((asgT a (.d x) >>= fun _ => asgT b (.d y) >>= fun _ => asgT c (.d z) >>= fun _ => asgT d (.d u)) S) kk ke := by
  match val, q with
  | .d (.tuple [x, y, z, u]), q => exact ⟨x, y, z, u, rfl, q⟩
  | .d (.tuple []), q => exact q.elim
  | .d (.tuple [_]), q => exact q.elim
  | .d (.tuple [_, _]), q => exact q.elim
  | .d (.tuple [_, _, _]), q => exact q.elim
  | .d (.tuple (_ :: _ :: _ :: _ :: _ :: _)), q => exact q.elim
  | .d .none, q => exact q.elim
  | .d (.bool _), q => exact q.elim
  | .d (.int _), q => exact q.elim
  | .d (.str _), q => exact q.elim
  | .d (.list _), q => exact q.elim
  | .d (.dict _), q => exact q.elim
  | .ol _, q => exact q.elim
  | .od _, q => exact q.elim
  | .os _, q => exact q.elim
  | .drw, q => exact q.elim
  | .scr _, q => exact q.elim
  | .er _ _, q => exact q.elim
theorem rp1 {w : World} {K : PySem.W.Frag} {H : Hp} {vs : List V} {x : PyData} (h : RpAll w K H vs [x]) : ∃ v, vs = [v] ∧ Rp w K H v x := by
  cases h with
  | cons h t => cases t; exact ⟨_, rfl, h⟩
theorem rpc {w : World} {K : PySem.W.Frag} {H : Hp} {vs : List V} {x : PyData} {xs : List PyData} (h : RpAll w K H vs (x :: xs)) : ∃ v vr, vs = v :: vr ∧ Rp w K H v x ∧ RpAll w K H vr xs := by
  cases h with
  | cons h t => exact ⟨_, _, rfl, h, t⟩
theorem s_tg : ∀ {tg : Tg} {e : Expr}, XOk Γ xcl W N sc st k X → isTg N sc st tg e = true → PG X e (gT (cfg X Γ xcl fx) tg)
  | .nm i x, e, ok, h => by
    cases e with
    | Name y pos =>
      have h : (decide (y = x) && locB N sc st i x) = true := h
      rw [Bool.and_eq_true, decide_eq_true_eq] at h
      obtain ⟨rfl, h⟩ := h
      exact g_nm ok h
    | _ => cases h
  | .tp1 a, e, ok, h => by
    match e, h with
    | .Tuple [x] j pos, h =>
      have h1 : isTg N sc st a x = true := h
      refine (pg_tup (n := 1) ok.calm (pgs_cons (s_tg ok h1) pgs_nil (by rw [isTg_each h1]; rfl)) (by rw [isTg_each h1]; rfl) (by rw [isTg_each h1]; rfl)).weak fun v σ H Q ⟨p, val, s, rv, nv, q⟩ => ?_
      obtain ⟨x, rfl, q⟩ := asg1 q
      obtain ⟨ad, vs, rfl, sq, rp⟩ := tup_of s rv
      obtain ⟨v1, rfl, r1⟩ := rp1 rp
      exact ⟨ad, [v1], rfl, sq, rfl, then_tg s r1 q fun σ' p' z as => ⟨rfl, z σ' p' rfl as⟩⟩
  | .tp2 a b, e, ok, h => by
    match e, h with
    | .Tuple [x, y] j pos, h =>
      have h : (isTg N sc st a x && isTg N sc st b y) = true := h
      rw [Bool.and_eq_true] at h
      obtain ⟨h1, h2⟩ := h
      refine (pg_tup (n := 2) ok.calm (pgs_cons (s_tg ok h1) (pgs_cons (s_tg ok h2) pgs_nil (by rw [isTg_each h2]; rfl)) (by rw [isTg_each h1]; rfl)) (by rw [isTg_each h1, isTg_each h2]; rfl) (by rw [isTg_each h1, isTg_each h2]; rfl)).weak fun v σ H Q ⟨p, val, s, rv, nv, q⟩ => ?_
      obtain ⟨x, y, rfl, q⟩ := asg2 q
      obtain ⟨ad, vs, rfl, sq, rp⟩ := tup_of s rv
      obtain ⟨v1, vr, rfl, r1, rp⟩ := rpc rp
      obtain ⟨v2, rfl, r2⟩ := rp1 rp
      refine ⟨ad, [v1, v2], rfl, sq, rfl, then_tg s r1 (outP_bind q) fun σ1 p1 q1 as1 => ?_⟩
      refine then_tg as1.sim (by rw [as1.hf]; exact r2) q1 fun σ2 p2 q2 as2 => ?_
      exact ⟨rfl, q2 σ2 p2 rfl (as1.trans as2)⟩
  | .tp3 a b c, e, ok, h => by
    match e, h with
    | .Tuple [x, y, z] j pos, h =>
      have h : (isTg N sc st a x && isTg N sc st b y && isTg N sc st c z) = true := h
      simp only [Bool.and_eq_true] at h
      obtain ⟨⟨h1, h2⟩, h3⟩ := h
      refine (pg_tup (n := 3) ok.calm (pgs_cons (s_tg ok h1) (pgs_cons (s_tg ok h2) (pgs_cons (s_tg ok h3) pgs_nil (by rw [isTg_each h3]; rfl)) (by rw [isTg_each h2]; rfl)) (by rw [isTg_each h1]; rfl)) (by rw [isTg_each h1, isTg_each h2, isTg_each h3]; rfl) (by rw [isTg_each h1, isTg_each h2, isTg_each h3]; rfl)).weak fun v σ H Q ⟨p, val, s, rv, nv, q⟩ => ?_
      obtain ⟨x, y, z, rfl, q⟩ := asg3 q
      obtain ⟨ad, vs, rfl, sq, rp⟩ := tup_of s rv
      obtain ⟨v1, vr, rfl, r1, rp⟩ := rpc rp
      obtain ⟨v2, vr, rfl, r2, rp⟩ := rpc rp
      obtain ⟨v3, rfl, r3⟩ := rp1 rp
      refine ⟨ad, [v1, v2, v3], rfl, sq, rfl, then_tg s r1 (outP_bind q) fun σ1 p1 q1 as1 => ?_⟩
      refine then_tg as1.sim (by rw [as1.hf]; exact r2) (outP_bind q1) fun σ2 p2 q2 as2 => ?_
      refine then_tg as2.sim (by rw [as2.hf, as1.hf]; exact r3) q2 fun σ3 p3 q3 as3 => ?_
      exact ⟨rfl, q3 σ3 p3 rfl (as1.trans (as2.trans as3))⟩
  | .tp4 a b c d, e, ok, h => by
    match e, h with
    | .Tuple [x, y, z, u] j pos, h =>
      have h : (isTg N sc st a x && isTg N sc st b y && isTg N sc st c z && isTg N sc st d u) = true := h
      simp only [Bool.and_eq_true] at h
      obtain ⟨⟨⟨h1, h2⟩, h3⟩, h4⟩ := h
      refine (pg_tup (n := 4) ok.calm (pgs_cons (s_tg ok h1) (pgs_cons (s_tg ok h2) (pgs_cons (s_tg ok h3) (pgs_cons (s_tg ok h4) pgs_nil (by rw [isTg_each h4]; rfl)) (by rw [isTg_each h3]; rfl)) (by rw [isTg_each h2]; rfl)) (by rw [isTg_each h1]; rfl)) (by rw [isTg_each h1, isTg_each h2, isTg_each h3, isTg_each h4]; rfl) (by rw [isTg_each h1, isTg_each h2, isTg_each h3, isTg_each h4]; rfl)).weak fun v σ H Q ⟨p, val, s, rv, nv, q⟩ => ?_
      obtain ⟨x, y, z, u, rfl, q⟩ := asg4 q
      obtain ⟨ad, vs, rfl, sq, rp⟩ := tup_of s rv
      obtain ⟨v1, vr, rfl, r1, rp⟩ := rpc rp
      obtain ⟨v2, vr, rfl, r2, rp⟩ := rpc rp
      obtain ⟨v3, vr, rfl, r3, rp⟩ := rpc rp
      obtain ⟨v4, rfl, r4⟩ := rp1 rp
      refine ⟨ad, [v1, v2, v3, v4], rfl, sq, rfl, then_tg s r1 (outP_bind q) fun σ1 p1 q1 as1 => ?_⟩
      refine then_tg as1.sim (by rw [as1.hf]; exact r2) (outP_bind q1) fun σ2 p2 q2 as2 => ?_
      refine then_tg as2.sim (by rw [as2.hf, as1.hf]; exact r3) (outP_bind q2) fun σ3 p3 q3 as3 => ?_
      refine then_tg as3.sim (by rw [as3.hf, as2.hf, as1.hf]; exact r4) q3 fun σ4 p4 q4 as4 => ?_
      exact ⟨rfl, q4 σ4 p4 rfl (as1.trans (as2.trans (as3.trans as4)))⟩
end
end Mini

set_option Elab.async false
set_option linter.all false
set_option maxRecDepth 100000
set_option maxHeartbeats 2000000
namespace Mini
open PySem PySem.Spec PyProof.Rows L2
/-! ### blocks: slots wiped and put back -/
theorem wipeR_len (ρ : List (Option Val)) : ∀ vs : List Nat, (wipeR ρ vs).length = ρ.length
  | [] => rfl
  | v :: vs => by unfold wipeR; rw [List.length_set, wipeR_len ρ vs]
theorem wipeR_out {ρ : List (Option Val)} {i : Nat} : ∀ {vs : List Nat}, i ∉ vs → (wipeR ρ vs)[i]? = ρ[i]?
  | [], _ => rfl
  | v :: vs, h => by
    rw [List.mem_cons, not_or] at h
    unfold wipeR
    rw [List.getElem?_set_ne (Ne.symm h.1), wipeR_out h.2]
theorem wipeR_in {ρ : List (Option Val)} {i : Nat} : ∀ {vs : List Nat}, i ∈ vs → ∀ v, (wipeR ρ vs)[i]? ≠ some (some v)
  | v :: vs, h, x, e => by
    unfold wipeR at e
    by_cases z : i = v
    · subst z
      by_cases hl : i < (wipeR ρ vs).length
      · rw [List.getElem?_set_self hl] at e; cases e
      · rw [List.getElem?_eq_none (by simpa using hl)] at e; cases e
    · rw [List.getElem?_set_ne (Ne.symm z)] at e
      rcases List.mem_cons.mp h with y | y
      · exact z y
      · exact wipeR_in y x e
theorem wipe_out {σ : L2.St} {i : Nat} : ∀ {vs : List Nat}, i ∉ vs → (wipe σ vs)[i]? = σ[i]?
  | [], _ => rfl
  | v :: vs, h => by
    rw [List.mem_cons, not_or] at h
    unfold wipe
    rw [List.getElem?_set_ne (Ne.symm h.1), wipe_out h.2]
theorem wipe_same {σ σ' : L2.St} {vs : List Nat} (hl : σ'.length = σ.length) (h : ∀ i, i ∉ vs → σ'[i]? = σ[i]?) : wipe σ' vs = wipe σ vs := by
  apply List.ext_getElem?
  intro i
  by_cases hi : i ∈ vs
  · have key : ∀ (τ : L2.St) (vs : List Nat), i ∈ vs → (wipe τ vs)[i]? = if i < τ.length then some none else none := fun τ vs hi => by
      induction vs with
      | nil => cases hi
      | cons v vs ih =>
        unfold wipe
        by_cases z : i = v
        · subst z
          by_cases hl : i < τ.length
          · rw [List.getElem?_set_self (by rw [wipe_length]; exact hl), if_pos hl]
          · rw [List.getElem?_eq_none (by rw [List.length_set, wipe_length]; omega), if_neg hl]
        · rw [List.getElem?_set_ne (Ne.symm z)]
          rcases List.mem_cons.mp hi with y | y
          · exact absurd y z
          · exact ih y
    rw [key σ' vs hi, key σ vs hi, hl]
  · rw [wipe_out hi, wipe_out hi, h i hi]
theorem backR_len (ρ₀ ρ : List (Option Val)) : ∀ vs : List Nat, (backR ρ₀ ρ vs).length = ρ.length
  | [] => rfl
  | v :: vs => by unfold backR; rw [List.length_set, backR_len ρ₀ ρ vs]
theorem backR_out {ρ₀ ρ : List (Option Val)} {i : Nat} : ∀ {vs : List Nat}, i ∉ vs → (backR ρ₀ ρ vs)[i]? = ρ[i]?
  | [], _ => rfl
  | v :: vs, h => by
    rw [List.mem_cons, not_or] at h
    unfold backR
    rw [List.getElem?_set_ne (Ne.symm h.1), backR_out h.2]
theorem backR_in {ρ₀ ρ : List (Option Val)} {i : Nat} {v : Val} : ∀ {vs : List Nat}, i ∈ vs → (backR ρ₀ ρ vs)[i]? = some (some v) → ρ₀[i]? = some (some v)
  | x :: vs, h, e => by
    unfold backR at e
    by_cases z : i = x
    · subst z
      by_cases hl : i < (backR ρ₀ ρ vs).length
      · rw [List.getElem?_set_self hl] at e
        have e : (ρ₀[i]?).getD none = some v := Option.some.inj e
        cases q : ρ₀[i]? with
        | none => rw [q] at e; cases e
        | some o => rw [q] at e; rw [show o = some v from e]
      · rw [List.getElem?_eq_none (by simpa using hl)] at e; cases e
    · rw [List.getElem?_set_ne (Ne.symm z)] at e
      rcases List.mem_cons.mp h with y | y
      · exact absurd y z
      · exact backR_in y e
abbrev Pt.wiped (p : Pt) (vs : List Nat) : Pt := ⟨{ p.S with ρ := wipeR p.S.ρ vs }, p.Hf, p.L⟩
/-- from one point to another, the slots perhaps others -/
structure Mov (p : Pt) (H : Hp) (σ : L2.St) (p' : Pt) (H' : Hp) (σ' : L2.St) : Prop where
  hf : Same p.Hf p'.Hf
  keep : ∀ b o, H b = some o → ¬ Dr p.L b → H' b = some o
  ex : ∀ b o, H b = some o → ∃ o', H' b = some o'
  nf : ∀ b o, p'.Hf b = some o → p.Hf b = some o ∨ H b = none ∨ SlotOwn p σ b
  so : ∀ b, SlotOwn p' σ' b → SlotOwn p σ b
  drA : ∀ b, DrAll p'.L b → DrAll p.L b ∨ H b = none
  drk : ∀ b, Dr p'.L b → Dr p.L b ∨ H b = none
  l : LStep p.L p'.L
section
variable {c : Cfg} {p p1 p2 : Pt} {H H1 H2 : Hp} {σ σ1 σ2 : L2.St}
theorem Mov.of (a : Step p H p1 H1 σ) : Mov p H σ p1 H1 σ := ⟨a.hf, a.keep, a.ex, a.nf, a.so, a.drA, a.drk, a.l⟩
theorem Mov.step (a : Mov p H σ p1 H1 σ) : Step p H p1 H1 σ := ⟨a.hf, a.keep, a.ex, a.nf, a.so, a.drA, a.drk, a.l⟩
theorem Mov.none_of (a : Mov p H σ p1 H1 σ1) {b : Addr} (h : H1 b = none) : H b = none := by
  cases q : H b with
  | none => rfl
  | some o =>
    obtain ⟨o', e⟩ := a.ex b o q
    rw [e] at h
    cases h
theorem Mov.trans (a : Mov p H σ p1 H1 σ1) (b : Mov p1 H1 σ1 p2 H2 σ2) : Mov p H σ p2 H2 σ2 where
  hf := a.hf.trans b.hf
  keep := fun c o h hd => b.keep c o (a.keep c o h hd) fun hd1 => (a.drk c hd1).elim hd fun z => by rw [h] at z; cases z
  ex := fun c o h => let ⟨o', h'⟩ := a.ex c o h; b.ex c o' h'
  nf := fun c o h => by
    rcases b.nf c o h with h | h | h
    · exact a.nf c o h
    · exact .inr (.inl (a.none_of h))
    · exact .inr (.inr (a.so c h))
  so := fun c h => a.so c (b.so c h)
  drA := fun c h => by
    rcases b.drA c h with h | h
    · exact a.drA c h
    · exact .inr (a.none_of h)
  drk := fun c h => by
    rcases b.drk c h with h | h
    · exact a.drk c h
    · exact .inr (a.none_of h)
  l := a.l.trans b.l
theorem RV.mov {w : World} {K : PySem.W.Frag} {v : V} {val : Val} (a : Mov p H σ p1 H1 σ1) (h : RV w K p.Hf H p.L v val) : RV w K p1.Hf H1 p1.L v val := by
  have nd : ∀ {b : Addr} {o : HO}, H b = some o → ¬ DrAll p.L b → ¬ DrAll p1.L b := fun {b o} e n z => (a.drA b z).elim n fun z => by rw [e] at z; cases z
  cases val with
  | d x => exact Rp.mono a.hf x v h
  | ol xs =>
    obtain ⟨b, vs, e, h1, h2, h3⟩ := h
    exact ⟨b, vs, e, a.keep b _ h1 fun z => h3 z.all, RpAll.mono a.hf _ _ h2, nd h1 h3⟩
  | od xs =>
    obtain ⟨b, e, ⟨o, es, ep, kw, vw, h1, h2, h3, h4, h5, h6, h7, h8, h9⟩, n⟩ := h
    exact ⟨b, e, ⟨o, es, ep, kw, vw, a.keep b _ h1 fun z => n z.all, h2, h3, h4, h5, h6, RpAll.mono a.hf _ _ h7, RpAll.mono a.hf _ _ h8, h9⟩, nd h1 n⟩
  | os xs =>
    obtain ⟨b, e, ⟨o, es, ep, t, ys, h1, h2, h3, h5, h6⟩, n⟩ := h
    exact ⟨b, e, ⟨o, es, ep, t, ys, a.keep b _ h1 fun z => n z.all, h2, h3, E3.mono a.hf h5, h6⟩, nd h1 n⟩
  | drw =>
    obtain ⟨x, l, c, e, e2⟩ := h
    have al := a.l
    rw [e] at al
    obtain ⟨l', e3⟩ := al
    exact ⟨x, l', c, e3, e2⟩
  | scr ns => obtain ⟨b, e, h1⟩ := h; exact ⟨b, e, SqL.same a.hf h1⟩
  | er _ _ => exact h
theorem wiped_own {vs : List Nat} {b : Addr} (h : SlotOwn (p.wiped vs) (wipe σ vs) b) : SlotOwn p σ b := by
  obtain ⟨i, v, h1, h2, h3⟩ := h
  have hi : i ∉ vs := fun z => wipeR_in z v h1
  have h1 : (wipeR p.S.ρ vs)[i]? = some (some v) := h1
  rw [wipeR_out hi] at h1
  rw [wipe_out hi] at h3
  exact ⟨i, v, h1, h2, h3⟩
theorem Sim.wipe (s : c.sim p H σ) (vs : List Nat) : c.sim (p.wiped vs) H (L2.wipe σ vs) := by
  refine ⟨s.sub, ?_, fun i v h => ?_, fun b h => s.own b (wiped_own h), fun i j v v' a hij h1 h2 o1 o2 h3 h4 => ?_, s.dr, s.dr0, s.drA, s.base, s.newf, s.hf0, s.ex0, s.l0⟩
  · show (wipeR p.S.ρ vs).length = _
    rw [wipeR_len, wipe_length]; exact s.len
  · have hi : i ∉ vs := fun z => wipeR_in z v h
    have h : (wipeR p.S.ρ vs)[i]? = some (some v) := h
    rw [wipeR_out hi] at h
    rw [wipe_out hi]
    exact s.slot i v h
  · have hi : i ∉ vs := fun z => wipeR_in z v h1
    have hj : j ∉ vs := fun z => wipeR_in z v' h2
    have h1 : (wipeR p.S.ρ vs)[i]? = some (some v) := h1
    have h2 : (wipeR p.S.ρ vs)[j]? = some (some v') := h2
    rw [wipeR_out hi] at h1
    rw [wipeR_out hj] at h2
    rw [wipe_out hi] at h3
    rw [wipe_out hj] at h4
    exact s.apart i j v v' a hij h1 h2 o1 o2 h3 h4
theorem Mov.wipe (p : Pt) (H : Hp) (σ : L2.St) (vs : List Nat) : Mov p H σ (p.wiped vs) H (L2.wipe σ vs) :=
  ⟨Same.refl _, fun _ _ e _ => e, fun _ o e => ⟨o, e⟩, fun _ _ e => .inl e, fun _ h => wiped_own h, fun _ e => .inl e, fun _ e => .inl e, LStep.refl _⟩
/-- behind a block: its own slots as they were -/
theorem Sim.back {vs : List Nat} (s0 : c.sim p H σ) (s1 : c.sim (p1.wiped vs) H1 (L2.wipe σ vs)) (mv : Mov p H σ (p1.wiped vs) H1 (L2.wipe σ vs)) (hv : ∀ i ∈ vs, ∀ v, p.S.ρ[i]? = some (some v) → v.owned = false) :
    c.sim ⟨{ p1.S with ρ := backR p.S.ρ p1.S.ρ vs }, p1.Hf, p1.L⟩ H1 σ ∧ Mov p H σ ⟨{ p1.S with ρ := backR p.S.ρ p1.S.ρ vs }, p1.Hf, p1.L⟩ H1 σ := by
  have own : ∀ b, SlotOwn ⟨{ p1.S with ρ := backR p.S.ρ p1.S.ρ vs }, p1.Hf, p1.L⟩ σ b → SlotOwn (p1.wiped vs) (L2.wipe σ vs) b := fun b ⟨i, v, h1, h2, h3⟩ => by
    have h1 : (backR p.S.ρ p1.S.ρ vs)[i]? = some (some v) := h1
    by_cases hi : i ∈ vs
    · rw [hv i hi v (backR_in hi h1)] at h2; cases h2
    · rw [backR_out hi] at h1
      exact ⟨i, v, by show (wipeR p1.S.ρ vs)[i]? = _; rw [wipeR_out hi]; exact h1, h2, by rw [wipe_out hi]; exact h3⟩
  refine ⟨⟨s1.sub, ?_, fun i v h => ?_, fun b h => s1.own b (own b h), fun i j v v' a hij h1 h2 o1 o2 h3 h4 => ?_, s1.dr, s1.dr0, s1.drA, s1.base, s1.newf, s1.hf0, s1.ex0, s1.l0⟩, ⟨mv.hf, mv.keep, mv.ex, mv.nf, fun b h => mv.so b (own b h), mv.drA, mv.drk, mv.l⟩⟩
  · have h := s1.len
    have h : (wipeR p1.S.ρ vs).length = (L2.wipe σ vs).length := h
    rw [wipeR_len, wipe_length] at h
    show (backR p.S.ρ p1.S.ρ vs).length = _
    rw [backR_len]; exact h
  · have h : (backR p.S.ρ p1.S.ρ vs)[i]? = some (some v) := h
    by_cases hi : i ∈ vs
    · obtain ⟨u, e1, e2⟩ := s0.slot i v (backR_in hi h)
      exact ⟨u, e1, RV.mov (p1 := p1.wiped vs) mv e2⟩
    · rw [backR_out hi] at h
      obtain ⟨u, e1, e2⟩ := s1.slot i v (by show (wipeR p1.S.ρ vs)[i]? = _; rw [wipeR_out hi]; exact h)
      rw [wipe_out hi] at e1
      exact ⟨u, e1, e2⟩
  · have f : ∀ {i : Nat} {v : Val}, (backR p.S.ρ p1.S.ρ vs)[i]? = some (some v) → v.owned = true → i ∉ vs ∧ p1.S.ρ[i]? = some (some v) := fun {i v} h o => by
      by_cases hi : i ∈ vs
      · rw [hv i hi v (backR_in hi h)] at o; cases o
      · rw [backR_out hi] at h; exact ⟨hi, h⟩
    obtain ⟨hi, h1⟩ := f h1 o1
    obtain ⟨hj, h2⟩ := f h2 o2
    exact s1.apart i j v v' a hij (by show (wipeR p1.S.ρ vs)[i]? = _; rw [wipeR_out hi]; exact h1) (by show (wipeR p1.S.ρ vs)[j]? = _; rw [wipeR_out hj]; exact h2) o1 o2 (by rw [wipe_out hi]; exact h3) (by rw [wipe_out hj]; exact h4)
/-! ### an object that is being filled, held by nobody -/
structure Fill (c : Cfg) (p : Pt) (H : Hp) (σ : L2.St) (D : Addr) : Prop where
  at_ : ∃ o, H D = some o ∧ (∀ ob q, o ≠ .frz ob q)
  hf : p.Hf D = none
  h0 : c.fx.H0 D = none
  dr : ¬ DrAll p.L D
  so : ¬ SlotOwn p σ D
theorem Fill.mov {D : Addr} (f : Fill c p H σ D) (a : Mov p H σ p1 H1 σ1) : Fill c p1 H1 σ1 D ∧ H1 D = H D := by
  obtain ⟨o, e, ne⟩ := f.at_
  have k := a.keep D o e fun z => f.dr z.all
  refine ⟨⟨⟨o, k, ne⟩, ?_, f.h0, fun z => ?_, fun z => f.so (a.so D z)⟩, by rw [k, e]⟩
  · cases z : p1.Hf D with
    | none => rfl
    | some x =>
      rcases a.nf D x z with y | y | y
      · rw [f.hf] at y; cases y
      · rw [e] at y; cases y
      · exact absurd y f.so
  · rcases a.drA D z with y | y
    · exact f.dr y
    · rw [e] at y; cases y
theorem Fill.new {D : Addr} {o : HO} (s : c.sim p H σ) (hD : H D = none) (ne : ∀ ob q, o ≠ .frz ob q) : Fill c p (upd H D o) σ D := by
  refine ⟨⟨o, upd_same, ne⟩, ?_, s.h0 hD, fun z => ?_, fun z => ?_⟩
  · cases e : p.Hf D with
    | none => rfl
    | some x => rw [s.sub D x e] at hD; cases hD
  · obtain ⟨x, e⟩ := s.drSome z
    rw [hD] at e; cases e
  · obtain ⟨⟨x, e⟩, _⟩ := s.slotSome z
    rw [hD] at e; cases e
theorem Fill.put {D : Addr} {o : HO} (f : Fill c p H σ D) (s : c.sim p H σ) (ne : ∀ ob q, o ≠ .frz ob q) : c.sim p (upd H D o) σ ∧ Fill c p (upd H D o) σ D := by
  have k : ∀ {b : Addr} {x : HO}, H b = some x → b ≠ D → upd H D o b = some x := fun e h => by rw [upd_ne h]; exact e
  refine ⟨⟨fun b x e => k (s.sub b x e) fun z => ?_, s.len, fun i v h => ?_, s.own, s.apart, s.dr.lay (fun b x e hb => k e fun z => ?_) fun _ _ e => e, s.dr0, s.drA, fun b x e n => k (s.base b x e n) fun z => ?_, s.newf, s.hf0, fun b x e => ?_, s.l0⟩, ⟨⟨o, upd_same, ne⟩, f.hf, f.h0, f.dr, f.so⟩⟩
  · rw [z, f.hf] at e; cases e
  · obtain ⟨u, h1, h2⟩ := s.slot i v h
    refine ⟨u, h1, ?_⟩
    cases v with
    | d x => exact h2
    | ol xs =>
      obtain ⟨b, ws, rfl, q1, q2, q3⟩ := h2
      exact ⟨b, ws, rfl, k q1 fun z => f.so (z ▸ ⟨i, _, h, rfl, h1⟩), q2, q3⟩
    | od xs =>
      obtain ⟨b, rfl, ⟨ob, es, ep, kw, vw, q1, q2⟩, n⟩ := h2
      exact ⟨b, rfl, ⟨ob, es, ep, kw, vw, k q1 fun z => f.so (z ▸ ⟨i, _, h, rfl, h1⟩), q2⟩, n⟩
    | os xs =>
      obtain ⟨b, rfl, ⟨ob, es, ep, t, ys, q1, q2⟩, n⟩ := h2
      exact ⟨b, rfl, ⟨ob, es, ep, t, ys, k q1 fun z => f.so (z ▸ ⟨i, _, h, rfl, h1⟩), q2⟩, n⟩
    | drw => exact h2
    | scr ns => exact h2
    | er _ _ => exact h2
  · exact f.dr (z ▸ hb)
  · rw [z, f.h0] at e; cases e
  · by_cases z : b = D
    · subst z; exact ⟨o, upd_same⟩
    · obtain ⟨x', e'⟩ := s.ex0 b x e
      exact ⟨x', k e' z⟩
/-- ahead of the object's making, to behind a store into it -/
theorem Mov.put {D : Addr} {o : HO} (a : Mov p H σ p1 H1 σ1) (hD : H D = none) : Mov p H σ p1 (upd H1 D o) σ1 :=
  ⟨a.hf, fun b x e n => by rw [upd_ne (ne_of_none e hD)]; exact a.keep b x e n, fun b x e => by
    obtain ⟨x', e'⟩ := a.ex b x e
    exact ⟨x', by rw [upd_ne (ne_of_none e hD)]; exact e'⟩, a.nf, a.so, a.drA, a.drk, a.l⟩
end
end Mini

set_option Elab.async false
set_option linter.all false
set_option maxRecDepth 100000
set_option maxHeartbeats 4000000
namespace Mini
open PySem PySem.Spec PyProof.Rows L2
abbrev WF : WX := fun _ _ _ _ => False
section
variable {X : Cx} {Γ : Env} {xcl : Str → Option Addr} {fx : Fx} {W : WX} {N : List Str} {sc : Scope} {st : Str → Bool} {k : Nat} {pos : Pos} {m : Bool}
theorem XOk.blk (ok : XOk Γ xcl W N sc st k X) {scope : Scope} (s : Shared) (H : Hp) (C : Addr) (cl : List (Str × Addr)) (fp : List Addr) : XOk Γ xcl WF N (relS scope sc) (blkSt scope) k (X.blk s H scope (compEnvC scope cl C X.env) fp) where
  G := ⟨ok.G.bt, ok.G.gl, ok.G.fn⟩
  hN := ok.hN
  nd := ok.nd
  sc := by
    have e := ok.sc
    subst e
    rfl
  calm := ok.calm
  room := ok.room
  gd := ok.gd
  tk := fun u s' h => by
    obtain ⟨a, B, sI, pins, σ, H, cls, d, e, I, nb, up, sky, na, os, ag, w⟩ := h
    exact w.elim
  po := PassesOwn.never
  hst := fun x h => by
    have e := ok.sc
    subst e
    unfold blkSt at h
    split at h
    · rename_i e
      right
      exact lookup_relS_keep (by decide) e
    · rename_i e
      left
      show (scope.names.lookup x == some .cell) = true
      rw [e]; rfl
    · cases h
theorem wf_ew {c : Cfg} {σ : L2.St} {p : Pt} {e : Err} {S : Sta} (h : False) : EW c WF σ p e S := h.elim
/-- the tests of a clause: none or one -/
def tTs (c : Cfg) (W : WX) (ts : Tsts) : TT := fun σ H Q => ∃ p, c.sim p H σ ∧ OutP (evts c.Γ ts p.S) (fun b S' => ∀ H' p', p'.S = S' → c.sim p' H' σ → Step p H p' H' σ → Q b H') (EW c W σ p)
theorem _root_.L2.PTs.weak {X : Cx} {e : List Expr} {t t' : TT} (h : PTs X e t) (i : ∀ σ H Q, t' σ H Q → t σ H Q) : PTs X e t' := ⟨fun pins s σ H Q I q => h.run pins s σ H Q I (i σ H Q q)⟩
theorem s_ts0 : PTs X [] (tTs (cfg X Γ xcl fx) W .nil) := pts_nil.weak fun σ H Q ⟨p, s, q⟩ => q H p rfl s (Step.refl p H σ)
theorem s_ts1 {t : Tst} {x : Expr} (h : PT X x (tT (cfg X Γ xcl fx) W t)) : PTs X [x] (tTs (cfg X Γ xcl fx) W (.cons t .nil)) := by
  refine (pts_one h).weak fun σ H Q ⟨p, s, q⟩ => ?_
  have q : OutP ((evt Γ t >>= fun b => if b = true then pure true else pure false) p.S) _ _ := q
  refine tT.intro s (outP_bind q) (fun b H1 p1 q1 s1 st1 => ?_) fun _ _ z => z
  cases b <;> exact outP_pure q1 H1 p1 rfl s1 st1
/-! ### list comprehensions -/
def lcStep (Γ : Env) (vs : List Nat) (tg : Tg) (ts : Tsts) (elt : E) (x : PyData) : M (Option PyData) := wipeM vs >>= fun _ => asgT tg (.d x) >>= fun _ => evts Γ ts >>= fun b => if b = true then (ev Γ elt true >>= fun v => M.of (Mini.getD v) >>= fun y => pure (some y)) else pure none
theorem getD_of {val : Val} {y : PyData} (h : Mini.getD val = some y) : val.frz = some (.d y) := by
  unfold Mini.getD at h
  split at h
  · rename_i x e; cases h; exact e
  · cases h
theorem asg_mov {c : Cfg} {p p' : Pt} {σ σ' : L2.St} {H : Hp} {vs : List Nat} (a : Asg false c p σ H vs p' σ') : Mov p H σ p' H σ' :=
  ⟨by rw [a.hf]; exact Same.refl _, fun _ _ e _ => e, fun _ o e => ⟨o, e⟩, fun b o e => .inl (by rw [a.hf] at e; exact e), fun b z => a.so b (fun i hi v e => by
    cases h : v.owned with
    | false => rfl
    | true => exact absurd (a.pl i hi v e h) (by decide)) z, fun b z => .inl (by rw [a.l] at z; exact z), fun b z => .inl (by rw [a.l] at z; exact z), by rw [a.l]; exact LStep.refl _⟩
/-- one turn: the item is stored, the tests are asked, the element is made and put away. D is being filled -/
theorem turn_read {c : Cfg} {tg : Tg} {ts : Tsts} {vs : List Nat} {σ : L2.St} {H H' : Hp} {p0 p : Pt} {H0 : Hp} {d : PyData} {v : V} {α : Type} {mk : M (Option α)} {D : Addr} {kk : Option α → Sta → Prop} {te : TE} {R : Hp → Prop} {Q : V → Hp → Prop}
    (hin : ∀ i ∈ tgSlots tg, i ∈ vs) (s : c.sim (p.wiped vs) H (wipe σ vs)) (mv : Mov p0 H0 σ (p.wiped vs) H (wipe σ vs)) (hD0 : H0 D = none) (fl : Fill c (p.wiped vs) H (wipe σ vs) D)
    (hy : (H' = H ∧ Rp c.w c.K p.Hf v d) ∨ ∃ T ws ds, v = .ref T ∧ H T = none ∧ H' = upd H T (.tup ws) ∧ RpAll c.w c.K p.Hf ws ds ∧ d = .tuple ds)
    (q : OutP ((wipeM vs >>= fun _ => asgT tg (.d d) >>= fun _ => evts c.Γ ts >>= fun b => if b = true then mk else pure none) p.S) kk (fun _ _ => False))
    (hno : ∀ (H3 : Hp) (p3 : Pt), kk none p3.S → c.sim (p3.wiped vs) H3 (wipe σ vs) → Mov p0 H0 σ (p3.wiped vs) H3 (wipe σ vs) → Fill c (p3.wiped vs) H3 (wipe σ vs) D → Same p.Hf p3.Hf → H3 D = H D → R H3)
    (hyes : ∀ (σ2 : L2.St) (H3 : Hp) (p3 : Pt), wipe σ2 vs = wipe σ vs → OutP (mk p3.S) kk (fun _ _ => False) → c.sim p3 H3 σ2 → Mov p0 H0 σ p3 H3 σ2 → Fill c p3 H3 σ2 D → Same p.Hf p3.Hf → H3 D = H D → te σ2 H3 Q) :
    gT c tg v (wipe σ vs) H' fun σ2 H2 => wipe σ2 vs = wipe σ vs ∧ tTs c WF ts σ2 H2 fun b H3 => if b = true then te σ2 H3 Q else R H3 := by
  -- the item, put away
  obtain ⟨pa, ea, sa, ma, fa, ra, ka⟩ : ∃ pa : Pt, pa.S = (p.wiped vs).S ∧ c.sim pa H' (wipe σ vs) ∧ Mov (p.wiped vs) H (wipe σ vs) pa H' (wipe σ vs) ∧ Same p.Hf pa.Hf ∧ Rp c.w c.K pa.Hf v d ∧ True := by
    rcases hy with ⟨rfl, r⟩ | ⟨T, ws, ds, rfl, hT, rfl, r, rfl⟩
    · exact ⟨p.wiped vs, rfl, s, Mov.of (Step.refl _ _ _), Same.refl _, r, trivial⟩
    · obtain ⟨p2, e2, s2, st2, rv2⟩ := newTup (c := c) s r hT
      exact ⟨p2, e2, s2, Mov.of st2, st2.hf, rv2, trivial⟩
  have q1 : OutP ((asgT tg (.d d) >>= fun _ => evts c.Γ ts >>= fun b => if b = true then mk else pure none) pa.S) kk (fun _ _ => False) := by
    rw [ea]
    exact q
  obtain ⟨f1, k1⟩ := fl.mov ma
  refine ⟨pa, .d d, sa, ra, NewV.data, outP_mono (outP_bind q1) (fun _ S' q2 σ2 p2 e as => ?_) fun _ _ z => z⟩
  subst e
  have m2 := asg_mov as
  have hw : wipe σ2 vs = wipe σ vs := by
    have h1 : wipe σ2 vs = wipe (wipe σ vs) vs := wipe_same as.len fun i hi => as.rest i fun z => hi (hin i z)
    have h2 : wipe (wipe σ vs) vs = wipe σ vs := wipe_same (wipe_length σ vs) fun i hi => wipe_out hi
    rw [h1, h2]
  obtain ⟨f2, k2⟩ := f1.mov m2
  refine ⟨hw, p2, as.sim, outP_mono (outP_bind q2) (fun b S' q3 H3 p3 e s3 st3 => ?_) fun _ _ z => z.elim⟩
  subst e
  have m3 := mv.trans (ma.trans (m2.trans (Mov.of st3)))
  obtain ⟨f3, k3⟩ := f2.mov (Mov.of st3)
  have sm : Same p.Hf p3.Hf := fa.trans ((by rw [as.hf]; exact Same.refl _ : Same pa.Hf p2.Hf).trans st3.hf)
  have kD : H3 D = H D := k3.trans (k2.trans k1)
  cases b with
  | true => exact iteT (hyes σ2 H3 p3 hw q3 s3 m3 f3 sm kD)
  | false =>
    have m4 := m3.trans (Mov.wipe p3 H3 σ2 vs)
    have s4 := s3.wipe vs
    obtain ⟨f4, _⟩ := f3.mov (Mov.wipe p3 H3 σ2 vs)
    rw [hw] at m4 s4 f4
    exact iteF (hno H3 p3 (outP_pure q3) s4 m4 f4 sm kD)
theorem block_of {α : Type} {vs : List Nat} {mm : M α} {S : Sta} {kk : α → Sta → Prop} {ke : Err → Sta → Prop} (h : OutP (blockM vs mm S) kk ke) : (∀ i ∈ vs, ∀ v, S.ρ[i]? = some (some v) → v.owned = false) ∧ OutP (mm { S with ρ := wipeR S.ρ vs }) (fun a S' => kk a { S' with ρ := backR S.ρ S'.ρ vs }) (fun _ _ => False) := by
  unfold blockM at h
  split at h
  · rename_i ho
    refine ⟨fun i hi v e => ?_, ?_⟩
    · have z := List.all_eq_true.mp ho i hi
      rw [e] at z
      simpa using z
    · cases e : mm { S with ρ := wipeR S.ρ vs } with
      | ok a S' => rw [e] at h; exact h
      | er x S' => rw [e] at h; exact h
      | no => rw [e] at h; exact h
  · exact h.elim
theorem wipeR_idem (ρ : List (Option Val)) (vs : List Nat) : wipeR (wipeR ρ vs) vs = wipeR ρ vs := by
  apply List.ext_getElem?
  intro i
  by_cases hi : i ∈ vs
  · have key : ∀ (τ : List (Option Val)) (vs : List Nat), i ∈ vs → (wipeR τ vs)[i]? = if i < τ.length then some none else none := fun τ vs hi => by
      induction vs with
      | nil => cases hi
      | cons v vs ih =>
        unfold wipeR
        by_cases z : i = v
        · subst z
          by_cases hl : i < τ.length
          · rw [List.getElem?_set_self (by rw [wipeR_len]; exact hl), if_pos hl]
          · rw [List.getElem?_eq_none (by rw [List.length_set, wipeR_len]; omega), if_neg hl]
        · rw [List.getElem?_set_ne (Ne.symm z)]
          rcases List.mem_cons.mp hi with y | y
          · exact absurd y z
          · exact ih y
    rw [key _ vs hi, key _ vs hi, wipeR_len]
  · rw [wipeR_out hi]
theorem wiped_idem (p : Pt) (vs : List Nat) : (p.wiped vs).wiped vs = p.wiped vs := by
  show (⟨{ p.S with ρ := wipeR (wipeR p.S.ρ vs) vs }, p.Hf, p.L⟩ : Pt) = _
  rw [wipeR_idem]
structure ClauseOk (N : List Str) (own : List (Str × Nat)) (tg : Tg) (i : Expr) (ifs : List Expr) : Prop where
  inn : ∀ j ∈ tgSlots tg, j ∈ own.map (·.2)
  few : ifs.length ≤ 1
  set : ∀ env x, foldedSetIterable i env x = pure x
theorem clause_of {N : List Str} {own : List (Str × Nat)} {tg : Tg} {i : Expr} {ifs : List Expr} (h : clauseB N own tg i ifs = true) : ClauseOk N own tg i ifs := by
  unfold clauseB at h
  simp only [Bool.and_eq_true, List.all_eq_true, decide_eq_true_eq] at h
  obtain ⟨⟨⟨h1, h2⟩, h3⟩, _⟩ := h
  refine ⟨fun j hj => by simpa using h1 j hj, h2, fun env x => ?_⟩
  unfold foldedSetIterable
  cases i <;> first | rfl | cases h3
theorem s_lc {own : List (Str × Nat)} {tg : Tg} {it : Itr} {ts : Tsts} {elt : E} {x t i : Expr} {ifs : List Expr} {scope : Scope} (ok : XOk Γ xcl W N sc st k X) (hcl : clauseB N own tg i ifs = true) (hb : blkC N sc scope own = true)
    (hi : PI X t i (tI (cfg X Γ xcl fx) W it))
    (hg : ∀ (s : Shared) (H : Hp) (C : Addr) (cl : List (Str × Addr)) (fp : List Addr), PG (X.blk s H scope (compEnvC scope cl C X.env) fp) t (gT (cfg X Γ xcl fx) tg))
    (ht : ∀ (s : Shared) (H : Hp) (C : Addr) (cl : List (Str × Addr)) (fp : List Addr), PTs (X.blk s H scope (compEnvC scope cl C X.env) fp) ifs (tTs (cfg X Γ xcl fx) WF ts))
    (he : ∀ (s : Shared) (H : Hp) (C : Addr) (cl : List (Str × Addr)) (fp : List Addr), PE (X.blk s H scope (compEnvC scope cl C X.env) fp) x (tE (cfg X Γ xcl fx) WF elt true)) :
    PEA X (.ListComp x [⟨t, i, ifs, 0⟩] scope pos) (tE (cfg X Γ xcl fx) W (.lc own tg it ts elt) m) := by
  have co := clause_of hcl
  have bk : BlkOk X.N X.env.scope scope own := by rw [ok.hN, ok.sc]; exact blkOk_by hb
  refine (PEA.mk (pe_lc ok.calm (by rw [ok.hN]; exact ok.nd) hi bk hg ht he (fun _ => co.set _ _)) fun j y py spos hN h1 h2 h3 => ps_setLc ok.calm hN h1 h2 h3 hi bk hg ht he (fun _ => co.set _ _)).weak fun σ H Q ⟨p, s, q⟩ => ?_
  have q : OutP ((evi Γ it >>= fun xs => blockM (own.map (·.2)) (lcGo (lcStep Γ (own.map (·.2)) tg ts elt) xs []) >>= fun ys => pure (Val.ol ys)) p.S) _ _ := q
  refine ⟨p, s, outP_mono (outP_bind q) (fun xs S' q1 J H1 p1 e s1 st1 itr D hD => ?_) fun _ _ z => z⟩
  subst e
  generalize hvs : own.map (·.2) = vs at q1 ⊢
  obtain ⟨Y, wk, hy⟩ := itr.ex
  obtain ⟨hv, q1⟩ := block_of (outP_bind q1)
  obtain ⟨s2, _⟩ := s1.layO (o := .lst []) hD
  have fl2 : Fill (cfg X Γ xcl fx) p1 (upd H1 D (.lst [])) σ D := Fill.new s1 hD (fun _ _ => by simp)
  have mv0 : Mov p1 H1 σ p1 (upd H1 D (.lst [])) σ := (Mov.of (Step.refl p1 H1 σ)).put hD
  have base : (cfg X Γ xcl fx).sim (p1.wiped vs) (upd H1 D (.lst [])) (wipe σ vs) ∧ Mov p1 H1 σ (p1.wiped vs) (upd H1 D (.lst [])) (wipe σ vs) ∧ Fill (cfg X Γ xcl fx) (p1.wiped vs) (upd H1 D (.lst [])) (wipe σ vs) D :=
    ⟨Sim.wipe (c := cfg X Γ xcl fx) s2 vs, mv0.trans (Mov.wipe p1 _ σ vs), (fl2.mov (Mov.wipe p1 _ σ vs)).1⟩
  refine lc_it wk (fun i Hh => ∃ (pp : Pt) (accV : List V) (acc : List PyData), (cfg X Γ xcl fx).sim (pp.wiped vs) Hh (wipe σ vs) ∧ Mov p1 H1 σ (pp.wiped vs) Hh (wipe σ vs) ∧ Fill (cfg X Γ xcl fx) (pp.wiped vs) Hh (wipe σ vs) D ∧ Hh D = some (.lst accV) ∧ RpAll X.w X.K pp.Hf accV acc ∧
      OutP (lcGo (lcStep Γ vs tg ts elt) (xs.drop i) acc pp.S) (fun ys S' => OutP ((pure (Val.ol ys) : M Val) { S' with ρ := backR p1.S.ρ S'.ρ vs }) (fun val S' => ∀ v H' p', p'.S = S' → (cfg X Γ xcl fx).sim p' H' σ → Step p H p' H' σ → (cfg X Γ xcl fx).rv p' H' v val → (m = true → Fresh H p' v val) → Q v H') (EW (cfg X Γ xcl fx) W σ p)) (fun _ _ => False)) ?_ ?_ ?_ ?_
  · refine ⟨p1.wiped vs, [], [], ?_, ?_, ?_, upd_same, .nil, q1⟩
    · rw [wiped_idem]; exact base.1
    · rw [wiped_idem]; exact base.2.1
    · rw [wiped_idem]; exact base.2.2
  · rintro i Hh _ ⟨pp, accV, acc, a1, a2, _⟩
    exact a2.hf.trans a1.sub
  · rintro i v Hh H' hlt ⟨pp, accV, acc, a1, a2, a3, a4, a5, a6⟩ yy
    obtain ⟨d, ed⟩ : ∃ d, xs[i]? = some d := ⟨_, List.getElem?_eq_getElem hlt⟩
    have hdrop : xs.drop i = d :: xs.drop (i + 1) := by
      rw [List.drop_eq_getElem_cons hlt]
      rw [List.getElem?_eq_getElem hlt] at ed
      rw [Option.some.inj ed]
    rw [hdrop] at a6
    have a6 := outP_bind (show OutP ((lcStep Γ vs tg ts elt d >>= fun o => match o with | some y => (if acc.length < sizeLine then lcGo (lcStep Γ vs tg ts elt) (xs.drop (i + 1)) (acc ++ [y]) else M.no) | none => lcGo (lcStep Γ vs tg ts elt) (xs.drop (i + 1)) acc) pp.S) _ _ from a6)
    have sm : Same p1.Hf pp.Hf := a2.hf
    refine turn_read (c := cfg X Γ xcl fx) (p0 := p1) (H0 := H1) (D := D) (by rw [← hvs]; exact co.inn) a1 a2 hD a3 ?_ a6 (fun H3 p3 q3 s3 m3 f3 sm3 kD => ?_) fun σ2 H3 p3 hw q3 s3 m3 f3 sm3 kD => ?_
    · rcases hy i d Hh v H' (sm.trans a1.sub) ed yy with ⟨h1, h2⟩ | ⟨T, ws, ds, h1, h2, h3, h4, h5⟩
      · exact .inl ⟨h1, Rp.mono sm _ _ h2⟩
      · exact .inr ⟨T, ws, ds, h1, h2, h3, RpAll.mono sm _ _ h4, h5⟩
    · exact ⟨p3, accV, acc, s3, m3, f3, by rw [kD]; exact a4, RpAll.mono sm3 _ _ a5, q3⟩
    · refine tE.intro s3 (outP_bind q3) (fun val y H4 p4 q4 s4 st4 rv fr => ?_) fun _ _ z => z.elim
      obtain ⟨dy, e, q4⟩ := outP_of (outP_bind q4)
      obtain ⟨p5, e5, s5, st5, rv5, _, _⟩ := Sim.frzNew s4 st4 s3 rv (getD_of e) (fr rfl)
      obtain ⟨f5, k5⟩ := f3.mov (Mov.of st5)
      have q4 : OutP ((if acc.length < sizeLine then lcGo (lcStep Γ vs tg ts elt) (xs.drop (i + 1)) (acc ++ [dy]) else M.no) p4.S) _ _ := outP_pure q4
      split at q4
      · rename_i hlen
        have a5' := RpAll.mono (sm3.trans st5.hf) _ _ a5
        refine ⟨accV, by rw [k5, kD]; exact a4, by rw [a5.length]; exact hlen, p5, accV ++ [y], acc ++ [dy], ?_⟩
        obtain ⟨s6, f6⟩ := f5.put (o := .lst (accV ++ [y])) s5 (fun _ _ => by simp)
        have m6 := ((m3.trans (Mov.of st5)).put (o := .lst (accV ++ [y])) hD).trans (Mov.wipe p5 (upd H4 D (.lst (accV ++ [y]))) σ2 vs)
        have s7 := Sim.wipe (c := cfg X Γ xcl fx) s6 vs
        obtain ⟨f7, _⟩ := f6.mov (Mov.wipe p5 (upd H4 D (.lst (accV ++ [y]))) σ2 vs)
        rw [hw] at m6 s7 f7
        exact ⟨s7, m6, f7, upd_same, a5'.append (.cons rv5 .nil), by rw [e5]; exact q4⟩
      · exact q4.elim
  · rintro Hh ⟨pp, accV, acc, a1, a2, a3, a4, a5, a6⟩
    rw [List.drop_length] at a6
    have a6 : ∀ v H' p', p'.S = { pp.S with ρ := backR p1.S.ρ pp.S.ρ vs } → (cfg X Γ xcl fx).sim p' H' σ → Step p H p' H' σ → (cfg X Γ xcl fx).rv p' H' v (.ol acc) → (m = true → Fresh H p' v (.ol acc)) → Q v H' := a6
    obtain ⟨s8, m8⟩ := Sim.back (c := cfg X Γ xcl fx) s1 a1 a2 hv
    exact a6 (.ref D) Hh ⟨{ pp.S with ρ := backR p1.S.ρ pp.S.ρ vs }, pp.Hf, pp.L⟩ rfl s8 (st1.trans m8.step) ⟨D, accV, rfl, a4, a5, a3.dr⟩ fun _ _ => ⟨D, rfl, st1.none_of hD, a3.hf⟩
end
end Mini

set_option Elab.async false
set_option linter.all false
set_option maxRecDepth 100000
set_option maxHeartbeats 4000000
namespace Mini
open PySem PySem.Spec PyProof.Rows L2
/-! ### comprehensions of one clause that fill an object D: sets, dicts -/
abbrev testsOf (ifs : List Expr) (env : PySem.Env) : Sem Bool := forIn ifs true fun c r => if r = true then do let ok ← isTrue c env (eval c env); pure (ForInStep.yield ok) else pure (ForInStep.yield r)
abbrev Body := PySem.Env → Addr → (Shared → Prop) → (Value → Shared → Prop) → Shared → Prop
structure CompKind (P : Program) (w : World) (A : Around) (ce tg iter : Expr) (ifs : List Expr) (newAcc : Sem Value) (ob0 : Obj) (body : Body) : Prop where
  clauses : clausesOf ce = [⟨tg, iter, ifs, 0⟩]
  fake : ob0.isFreed = false
  new : ∀ (s : Shared) (Q : Value → Shared → Prop) (E : Value → Shared → Prop), Q (.ref s.heap.objs.size) { s with heap := s.heap.push ob0 } → wpAny (model P w) A newAcc Q E s
  start : ∀ (env : PySem.Env) (it : Value) (D : Addr) (R : Result → Shared → Prop) (s : Shared), codeAny (model P w) A (.compLoop ce 0 it (.ref D) env) R s →
    wpAny (model P w) A (pyIter it) (fun it' s' => codeAny (model P w) A (.compLoop ce 0 it' (.ref D) env) R s') (notedBy (model P w) A env fun x s' => R (.error x) s') s → codeAny (model P w) A (.compStart ce 0 it (.ref D) env) R s
  loop : ∀ (env : PySem.Env) (it : Value) (D : Addr) (R : Result → Shared → Prop) (I : Nat → Shared → Prop)
    (turn : ∀ n s, I n s → wpAny (model P w) A (pyNext it) (fun r s₁ => match r with
      | none => R (.ok .next) s₁
      | some v => wpAny (model P w) A (letOwnedTupleGo tg it v) (fun _ s₁' => wpAny (model P w) A (assign tg env v) (fun _ s₂ => wpAny (model P w) A (testsOf ifs env) (fun ok s₃ =>
          if ok = true then body env D (fun s₅ => ∃ m, m < n ∧ I m s₅) (notedBy (model P w) A env fun e s' => R (.error e) s') s₃ else ∃ m, m < n ∧ I m s₃)
          (notedBy (model P w) A env fun e s' => R (.error e) s') s₂) (notedBy (model P w) A env fun e s' => R (.error e) s') s₁') (notedBy (model P w) A env fun e s' => R (.error e) s') s₁) (notedBy (model P w) A env fun e s' => R (.error e) s') s)
    (n : Nat) (s : Shared), I n s → codeAny (model P w) A (.compLoop ce 0 it (.ref D) env) R s
/-- what the element's part reaches, by readings -/
structure PB (X : Cx) (body : Body) (tb : Addr → L2.St → Hp → (Hp → Prop) → Prop) : Prop where
  run : ∀ (D : Addr) (pins : List (Addr × Obj)) (s : Shared) (σ : L2.St) (H : Hp) (Nx : Hp → Prop) (E : Value → Shared → Prop), Inv X pins σ H s → tb D σ H Nx → body X.env D (fun s' => ∃ H', Inv X pins σ H' s' ∧ Nx H') E s
  mono : ∀ (D : Addr) (s : Shared) (A B : Shared → Prop) (E : Value → Shared → Prop), (∀ s, A s → B s) → body X.env D A E s → body X.env D B E s
def tCx (ob0 : Obj) (wi : TI) (g : TG) (tt : TT) (tb : Addr → L2.St → Hp → (Hp → Prop) → Prop) (vs : List Nat) : TE := fun σ H Q => wi σ H fun J H1 => ∀ D, H1 D = none → D ≠ sysModules → ∃ W : Nat → Nat → Hp → Prop, (∃ m, W 0 m (upd H1 D (exO D ob0))) ∧ ∀ i m H, W i m H →
  (J.stop i H ∧ Q (.ref D) H) ∨ (J.go i H ∧ ∃ Nx : Hp → Prop, (∀ H', Nx H' → ∃ m', m' < m ∧ W (i + 1) m' H') ∧ ∀ x H', J.yld i H x H' → g x (wipe σ vs) H' fun σ2 H2 => wipe σ2 vs = wipe σ vs ∧ tt σ2 H2 fun b H3 => if b = true then tb D σ2 H3 Nx else Nx H3)
section
variable {X : Cx}
theorem comp_core {pins : List (Addr × Obj)} {s : Shared} {σ : L2.St} {H : Hp} {Q : VK} {ce tg iter : Expr} {ifs : List Expr} {scope : Scope} {own : List (PySem.Str × Nat)} {pos' : Pos} {newAcc : Sem Value} {ob0 : Obj} {body : Body} {wi : TI} {g : TG} {tt : TT} {tb : Addr → L2.St → Hp → (Hp → Prop) → Prop}
    {use : Option (Value → Sem Unit)} {Qf : Value → Shared → Prop} (ck : CompKind X.prog X.w X.A ce tg iter ifs newAcc ob0 body) (hc : X.calm = true) (hN : X.N.Nodup) (I : Inv X pins σ H s) (hi : PI X tg iter wi) (ok : BlkOk X.N X.env.scope scope own)
    (hg : ∀ (s : Shared) (H : Hp) (C : Addr) (cl : List (PySem.Str × Addr)) (fp : List Addr), PG (X.blk s H scope (compEnvC scope cl C X.env) fp) tg g)
    (ht : ∀ (s : Shared) (H : Hp) (C : Addr) (cl : List (PySem.Str × Addr)) (fp : List Addr), PTs (X.blk s H scope (compEnvC scope cl C X.env) fp) ifs tt)
    (hb : ∀ (s : Shared) (H : Hp) (C : Addr) (cl : List (PySem.Str × Addr)) (fp : List Addr), PB (X.blk s H scope (compEnvC scope cl C X.env) fp) body tb) (hs : ∀ x, foldedSetIterable iter X.env x = pure x)
    (h : tCx ob0 wi g tt tb (own.map (·.2)) σ H Q)
    (hRR : ∀ D C s' m H', Inv X pins σ H' s' → Q (.ref D) H' → s'.heap.Ns C m → FpOk X pins H' C → compPost (model X.prog X.w) X.A X.xe use Qf (.ref D) C (.ok .next) s') :
    wpAny (model X.prog X.w) X.A (comprehension ce scope X.env pos' newAcc false (eval iter X.env) use) Qf X.xe s := by
  have free : ∀ y ∈ scope.names, y.2 = .free → ∃ c, X.env.cells.lookup y.1 = some c := fun y hy e => (ok.free y hy e).elim (fun z => I.ok.has _ (.inl z)) fun z => I.ok.has _ (.inr z)
  refine wpAny_comprehension_free (use := use) ck.clauses hs (closure_ok free) ok.kind (fun y hy e => by rw [ok.uniq y hy, e]) (thn (hi.run pins s σ H _ I h) fun xv s1 hx => thn hx fun itv s2 h2 => ?_)
  obtain ⟨it, fp, tn, J, H2, rfl, I2, T, st2, f2, q⟩ := h2
  refine ck.new _ _ _ (newEnv_comp ?_)
  have hDn : H2 s2.heap.objs.size = none := I2.hok.fresh (Nat.le_refl _)
  obtain ⟨W, ⟨m0, w0⟩, turn⟩ := q s2.heap.objs.size hDn (Nat.ne_of_gt I2.big)
  have I3 : Inv X pins σ (upd H2 s2.heap.objs.size (exO s2.heap.objs.size ob0)) { s2 with heap := s2.heap.push ob0 } := I2.laid (t' := s2.toks) (fun b o e => Heap.get?_push_of_some _ e) (Nat.le_refl _) (exO_ok (Heap.get?_push_size _ ck.fake))
  have old : ∀ b ∈ fp, b < s2.heap.objs.size := fun b hb => let ⟨o, e, _⟩ := T.obj _ _ st2 b hb; Heap.lt_size e
  have f3 : ∀ b ∈ fp, FpOk X pins (upd H2 s2.heap.objs.size (exO s2.heap.objs.size ob0)) b ∧ b < (s2.heap.push ob0).objs.size := fun b hb =>
    ⟨⟨by rw [upd_ne (Nat.ne_of_lt (old b hb))]; exact (f2 b hb).1, (f2 b hb).2⟩, by rw [Heap.size_push]; exact Nat.lt_succ_of_lt (old b hb)⟩
  have st3 : tn 0 (s2.heap.push ob0) := T.keep _ _ _ st2 fun b _ o e => Heap.get?_push_of_some _ e
  generalize hs3 : ({ s2 with heap := s2.heap.push ob0 } : Shared) = s3 at I3
  generalize hH3 : upd H2 s2.heap.objs.size (exO s2.heap.objs.size ob0) = H3 at I3 w0 f3
  have eh : s3.heap = s2.heap.push ob0 := by rw [← hs3]
  rw [← eh] at f3 st3
  have I4 := block_start I3 ok hN f3
  have pg := hg s3 H3 s3.heap.objs.size (cellsFrom (s3.heap.objs.size + 1) scope.names (cloFrom X.env.cells scope.names [])) fp
  have pt := ht s3 H3 s3.heap.objs.size (cellsFrom (s3.heap.objs.size + 1) scope.names (cloFrom X.env.cells scope.names [])) fp
  have pb := hb s3 H3 s3.heap.objs.size (cellsFrom (s3.heap.objs.size + 1) scope.names (cloFrom X.env.cells scope.names [])) fp
  show codeAny _ _ (.compStart ce 0 (.ref it) (.ref s2.heap.objs.size) (compEnvC scope (cellsFrom (s3.heap.objs.size + 1) scope.names (cloFrom X.env.cells scope.names [])) s3.heap.objs.size X.env)) (compPost (model X.prog X.w) X.A X.xe use Qf (.ref s2.heap.objs.size) s3.heap.objs.size) { s3 with heap := pushCells (s3.heap.push { cls := .type "dict", data := .dict #[] }) scope.names }
  generalize hce : compEnvC scope (cellsFrom (s3.heap.objs.size + 1) scope.names (cloFrom X.env.cells scope.names [])) s3.heap.objs.size X.env = cenv at I4 pg pt pb ⊢
  have cL : cenv.locals = s3.heap.objs.size := by rw [← hce]; rfl
  generalize hs4 : ({ s3 with heap := pushCells (s3.heap.push { cls := .type "dict", data := .dict #[] }) scope.names } : Shared) = s4 at I4 ⊢
  have st4 : tn 0 s4.heap := T.keep _ _ _ st3 fun b _ o e => by rw [← hs4]; exact pushCells_keeps _ _ _ _ (Heap.get?_push_of_some _ e)
  have stat : ∀ {σ' : L2.St} {H' : Hp} {s' : Shared}, Inv (X.blk s3 H3 scope cenv fp) [] σ' H' s' → (∀ b ∈ fp, H' b = none) → ∀ b ∈ fp, FpOk (X.blk s3 H3 scope cenv fp) [] H' b := fun {σ' H' s'} I' hn b hb =>
    ⟨hn b hb, (I'.ok.exf b hb).1, I'.ok.exfs b hb, .inl hb, fun x c e => (I'.ok.exf b hb).2 x c e, fun p hp => absurd (show p ∈ ([] : List (Addr × Obj)) ++ [] from hp) (by simp)⟩
  have loop : codeAny (model X.prog X.w) X.A (.compLoop ce 0 (.ref it) (.ref s2.heap.objs.size) cenv) (compPost (model X.prog X.w) X.A X.xe use Qf (.ref s2.heap.objs.size) s3.heap.objs.size) s4 := by
    refine ck.loop cenv (.ref it) s2.heap.objs.size _ (fun n s' => ∃ i H', Inv (X.blk s3 H3 scope cenv fp) [] (wipe σ (own.map (·.2))) H' s' ∧ tn i s'.heap ∧ (∀ b ∈ fp, H' b = none) ∧ W i n H') ?_ m0 s4 ⟨0, H3, I4, st4, fun b hb => (f3 b hb).1.1, w0⟩
    rintro n s5 ⟨i, H5, I5, st5, n5, w5⟩
    rcases turn i n H5 w5 with ⟨stop, qq⟩ | ⟨go, Nx, hNx, step⟩
    · refine thnF (T.done (X.blk s3 H3 scope cenv fp) rfl rfl rfl hc i [] s5 _ H5 (fun _ _ => False) I5 (stat I5 n5) st5 stop) fun r s6 ⟨hr, I6⟩ => ?_
      subst hr
      have I7 : Inv X pins σ H5 s6 := I3.call' (ch := fp) I6.os I6.base I6.hok I6.bare fun b hb => ⟨(f3 b hb).1.2.2.2.1, (f3 b hb).1.2.1, (f3 b hb).1.2.2.2.2.1, (f3 b hb).1.2.2.2.2.2⟩
      have nC : H5 s3.heap.objs.size = none := by rw [← cL]; exact I6.free
      obtain ⟨m, hn, _⟩ := I6.loc
      have hn : s6.heap.Ns s3.heap.objs.size m := by rw [← cL]; exact hn
      exact hRR s2.heap.objs.size s3.heap.objs.size s6 m H5 I7 qq hn (I3.fpOk (Nat.le_refl _) nC)
    · refine thnF (T.item (X.blk s3 H3 scope cenv fp) rfl rfl rfl hc i [] s5 _ H5 (fun _ _ => False) I5 (stat I5 n5) st5 go) fun r s6 ⟨u, hr, h6⟩ => ?_
      subst hr
      refine thnF h6 fun _ s7 ⟨x, H7, I7, r7, y7, st7, n7⟩ => ?_
      have I7' := I7.pinned (stat I7 n7) (T.obj _ _ st7)
      refine thnF (pg.run _ s7 _ H7 x u _ I7' r7 (step x H7 y7)) fun _ s8 ⟨σ8, H8, I8, hw8, q8⟩ => ?_
      refine thnF (pt.run _ s8 σ8 H8 _ I8 q8) fun b s9 ⟨H9, I9, q9⟩ => ?_
      have fin : ∀ {s' : Shared} {H' : Hp}, Inv (X.blk s3 H3 scope cenv fp) ([] ++ pinsAt fp s7.heap) σ8 H' s' → Nx H' → ∃ m, m < n ∧ ∃ i H', Inv (X.blk s3 H3 scope cenv fp) [] (wipe σ (own.map (·.2))) H' s' ∧ tn i s'.heap ∧ (∀ b ∈ fp, H' b = none) ∧ W i m H' := fun {s' H'} I' nx => by
        obtain ⟨m', hm, w'⟩ := hNx H' nx
        have pin : ∀ b ∈ fp, ∀ o, s7.heap.get? b = some o → s'.heap.get? b = some o ∧ H' b = none := fun b hb o e =>
          let z := I'.pin (b, o) (List.mem_append_right _ (List.mem_append_right _ (mem_pinsAt hb e)))
          ⟨z.1, z.2.1⟩
        refine ⟨m', hm, i + 1, H', (I'.unpinned (pins := [])).weak (by rw [← hw8, wipe_length]) (fun j v e => ?_), T.keep _ _ _ st7 fun b hb o e => (pin b hb o e).1, fun b hb => ?_, w'⟩
        · rw [← hw8] at e
          exact (wipe_some e).1
        · obtain ⟨o, e, _⟩ := T.obj _ _ st7 b hb
          exact (pin b hb o e).2
      cases b with
      | false =>
        simp only [Bool.false_eq_true, if_false] at q9 ⊢
        exact fin I9 q9
      | true =>
        simp only [if_true] at q9 ⊢
        exact pb.mono _ _ _ _ _ (fun s' ⟨H', I', nx⟩ => fin I' nx) (pb.run s2.heap.objs.size _ s9 σ8 H9 Nx _ I9 q9)
  exact ck.start cenv (.ref it) s2.heap.objs.size _ s4 loop (T.self X.A 0 _ _ _ st4 loop)
/-- as a value, or stored at once -/
theorem pe_comp {ce tg iter : Expr} {ifs : List Expr} {scope : Scope} {own : List (PySem.Str × Nat)} {pos' : Pos} {newAcc : Sem Value} {ob0 : Obj} {body : Body} {wi : TI} {g : TG} {tt : TT} {tb : Addr → L2.St → Hp → (Hp → Prop) → Prop}
    (ev : eval ce X.env = comprehension ce scope X.env pos' newAcc false (eval iter X.env)) (ev2 : ∀ u, evalThenUse ce X.env u = (do let _ ← comprehension ce scope X.env pos' newAcc false (eval iter X.env) (some u))) (ck : CompKind X.prog X.w X.A ce tg iter ifs newAcc ob0 body) (hc : X.calm = true) (hN : X.N.Nodup) (hi : PI X tg iter wi) (ok : BlkOk X.N X.env.scope scope own)
    (hg : ∀ (s : Shared) (H : Hp) (C : Addr) (cl : List (PySem.Str × Addr)) (fp : List Addr), PG (X.blk s H scope (compEnvC scope cl C X.env) fp) tg g)
    (ht : ∀ (s : Shared) (H : Hp) (C : Addr) (cl : List (PySem.Str × Addr)) (fp : List Addr), PTs (X.blk s H scope (compEnvC scope cl C X.env) fp) ifs tt)
    (hb : ∀ (s : Shared) (H : Hp) (C : Addr) (cl : List (PySem.Str × Addr)) (fp : List Addr), PB (X.blk s H scope (compEnvC scope cl C X.env) fp) body tb) (hs : ∀ x, foldedSetIterable iter X.env x = pure x) : PEA X ce (tCx ob0 wi g tt tb (own.map (·.2))) := by
  refine ⟨⟨fun pins s σ H Q I h => ?_⟩, fun j y py spos _ h1 h2 h3 => ⟨fun pins s σ H D I h => ?_⟩⟩
  · rw [ev]
    refine comp_core ck hc hN I hi ok hg ht hb hs h fun D C s' m H' I' q hn f => ⟨m, hn, fun h'' sb => ?_⟩
    obtain ⟨f0, f1, f2, f3, f4, f5⟩ := f
    exact ⟨.ref D, H', I'.turned (t' := s'.toks) (fun b o hb e => (sb.2 b hb).trans e) f0 f1 f3 f4 f5, rfl, q⟩
  · rw [exec_Assign_Name_used _ _ _ _ h3]
    refine wpAny_bind (wpAny_standAt (wpAny_bind ?_))
    rw [ev2]
    have h : tCx ob0 wi g tt tb (own.map (·.2)) σ H (fun x H1 => gName j x σ H1 D.nx) := h
    refine wpAny_bind (thn (comp_core (Qf := fun _ s' => SP X pins D .next s') ck hc hN I hi ok hg ht hb hs h fun L C s' m H' I' q hn f => ?_) fun _ s' hq => wpAny_pure (wpAny_pure hq))
    show wpAny _ _ (assign (.Name y py) X.env (.ref L)) _ _ _
    refine wpAny_assign_Name (store_ok2 (v := V.ref L) I' hN h1 (.inl h2) rfl (fun s2 I2 ⟨a, sb, ha⟩ => ?_) (.inr h2))
    obtain ⟨f0, f1, f2, f3, f4, f5⟩ := f
    have haC : C ≠ a := by
      rcases ha with z | z
      · rw [z]; exact f1
      · exact fun e => f4 y a z e.symm
    refine ⟨m, hn.sameBut sb haC, fun h3 sb3 => ?_⟩
    exact ⟨_, H', I2.turned (t' := s2.toks) (fun b o hb e => (sb3.2 b hb).trans e) f0 f1 f3 f4 f5, q⟩
end
end Mini

set_option Elab.async false
set_option linter.all false
set_option maxRecDepth 100000
set_option maxHeartbeats 4000000
namespace Mini
open PySem PySem.Spec PyProof.Rows L2
section
variable {X : Cx} {pins : List (Addr × Obj)} {σ : L2.St} {H Hf : Hp} {s : Shared} {a : Addr} {xs : List PyData} {A : Around} {E : Value → Shared → Prop}
theorem set_add {y : V} {k : PyData} {u : Value} {Q : Value → Shared → Prop} (hu : A.units + 66 < cLine) (I : Inv X pins σ H s) (sub : Same Hf H) (sa : SetAt X.w X.K Hf H a xs) (ry : Rp X.w X.K Hf y k) (ru : RelV y u) (hw : keysWith xs k = true)
    (hz : if isTupD k then xs.length < 62 else xs.length < 3990) (h : ∀ o' s', Inv X pins σ (upd H a (exO a o')) s' → SetAt X.w X.K Hf (upd H a (exO a o')) a (sPut xs k) → Q .none s') :
    wpAny (model X.prog X.w) A (call (.builtin "set.add") [.ref a, u]) Q E s := by
  obtain ⟨o, es, ep, t, ys, h1, h2, h3, _⟩ := id sa
  have ho : s.heap.get? a = some o := (I.hok _ _ h1).1
  have hk := (keysWith_of hw).1
  refine wpAny_call_entry F.slot_set_add ⟨o, ho, h2.1⟩ F.entry_set_add ?_ (F.args_set_add_2 _ _)
  unfold Builtin.«set.add» Builtin.Frozenset.oneOther
  simp only [List.isEmpty_nil, bind_assoc]
  unfold Builtin.Frozenset.addrOf setAdd
  refine wpAny_bind (wpAny_pure ?_)
  try dsimp only
  refine wpAny_bind (wpAny_pure ?_)
  try dsimp only
  refine wpAny_bind (wpAny_holding (wpAny_bind (pyHash_key (keyOf k) u A.in1 s _ (Rp.nested I k _ _ _ (keyOk_some hk).1 (Rp.mono sub _ _ ry) ru) (by have := (keyOk_some hk).2; show A.units + 1 + _ < cLine; omega) ?_)))
  have eh : (keyOf k).hash X.w = hashD X.w k := by
    unfold hashD
    rw [(keyOk_some hk).1]
  rw [eh]
  refine set_put (A := A.in1) (by show A.units + 1 + 64 < cLine; omega) (I.tok (s.toks + (keyOf k).draws)) sub sa ry ru hw hz fun b o' s' I' sa' => ?_
  show wpAny _ _ (ret Value.none) _ _ _
  exact wpAny_pure ⟨_, rfl, h o' s' I' sa'⟩
theorem ask_dset {y x : V} {k dx : PyData} {u r : Value} {kvs : List (PyData × PyData)} {Q : Unit → Shared → Prop} (hu : A.units + 64 < cLine) (I : Inv X pins σ H s) (q : Ask X H Hf a kvs y k) (hyf : Rp X.w X.K Hf y k) (ru : RelV y u) (rx : Rp X.w X.K Hf x dx) (rr : RelV x r) (hz : kvs.length ≤ sizeLine)
    (h : ∀ o' s', Inv X pins σ (upd H a (exO a o')) s' → DicAt X.w X.K Hf (upd H a (exO a o')) a (dPut kvs k dx) → Q () s') :
    wpAny (model X.prog X.w) A (dictSet a u r) Q E s := by
  have hsys := q.sys
  have cases' := ask_cases I q ru
  obtain ⟨sub, d, ky, kw⟩ := q
  obtain ⟨o, es, ep, kw0, vw0, h1, h2, h3, h4, h5, h6, h7, h8, h9, h10⟩ := d
  have hok := dPut_ok (d := dx) h10 kw
  rcases cases' with ⟨fk, fks, is, ps, dd, pr⟩ | ⟨_, hk, hks, b, rfl, rfl, is, xs, dd, pr⟩
  · have hl : ps.length ≤ sizeLine := by rw [← Paired.length pr]; exact hz
    refine wpAny_dictSet_pairs (hsz := hl) is dd fun h' dd' hs => ?_
    obtain ⟨o', es', ep', g1, g2, g3, g4, g5, g6⟩ := dd'
    have fks' : ∀ p ∈ dPut kvs k dx, flatKey p.1 = true := fun p hp => by
      have hm : p.1 ∈ (dPut kvs k dx).map (·.1) := List.mem_map.mpr ⟨p, hp, rfl⟩
      rw [dPut_keys] at hm
      split at hm
      · obtain ⟨p', hp', e⟩ := List.mem_map.mp hm; rw [← e]; exact fks p' hp'
      · rcases List.mem_append.mp hm with hm | hm
        · obtain ⟨p', hp', e⟩ := List.mem_map.mp hm; rw [← e]; exact fks p' hp'
        · rw [List.mem_singleton.mp hm]; exact fk
    obtain ⟨kw', vw', b1, b2, b3, b4, b5⟩ := back_flat g5 (fun e he => g4 e (Array.mem_toList_iff.mp he)) (put_flat fk rr rx pr fks) fks'
    exact h o' _ (write_ex I h1 hs g1) ⟨o', es', ep', kw', vw', upd_same, hsys, g2, g3, b1, b2, b3, b4, b5, hok⟩
  · have hl : xs.length ≤ sizeLine := by rw [← Paired.length pr]; exact hz
    refine wpAny_dictSet_heap (hsz := hl) (show A.units + 8 < cLine by omega) is dd fun h' dd' hs => ?_
    obtain ⟨o', es', ep', g1, g2, g3, g4, _, g6⟩ := dd'
    have hks' : ∀ p ∈ dPut kvs k dx, keyOk p.1 = true := fun p hp => keysOk_all hok p.1 (List.mem_map.mpr ⟨p, hp, rfl⟩)
    obtain ⟨kw', vw', b1, b2, b3, b4, b5⟩ := back_tup (P := X.prog) (put_tup hk hyf rr rx pr (fun p hp => (hks p hp).1)) hks'
    exact h o' _ (write_ex I h1 hs g1) ⟨o', es', ep', kw', vw', upd_same, hsys, g2, g3, by rw [g4]; exact b1, by rw [g4]; exact b2, b3, b4, by rw [g4]; exact b5, hok⟩
end
/-! ### the two kinds -/
def setBody (P : Program) (w : World) (A : Around) (elt : Expr) : Body := fun env D Nx E s => wpAny (model P w) A (eval elt env) (fun x s₄ => wpAny (model P w) A (call (.builtin "set.add") [.ref D, x]) (fun _ s₅ => Nx s₅) E s₄) E s
def dicBody (P : Program) (w : World) (A : Around) (kx vx : Expr) : Body := fun env D Nx E s => wpAny (model P w) A (eval kx env) (fun kv s₄ => wpAny (model P w) A (eval vx env) (fun vv s₅ => wpAny (model P w) A (dictSet D kv vv) (fun _ s₆ => Nx s₆) E s₅) E s₄) E s
abbrev newDicObj : Obj := { cls := .type "dict", data := .dict #[] }
theorem setKind {P : Program} {w : World} {A : Around} {elt tg iter : Expr} {ifs : List Expr} {scope : Scope} {pos : Pos} : CompKind P w A (.SetComp elt [⟨tg, iter, ifs, 0⟩] scope pos) tg iter ifs (newSet (.type "set")) (newSetObj w) (setBody P w A elt) where
  clauses := rfl
  fake := rfl
  new := fun s Q E h => PpSet.newSet_ok h
  start := fun env it D R s h0 h => PpSet.codeAny_compStart_set h0 h
  loop := fun env it D R I turn n s h => PpSet.compLoopS_any I turn n h
theorem dicKind {P : Program} {w : World} {A : Around} {kx vx tg iter : Expr} {ifs : List Expr} {scope : Scope} {pos : Pos} : CompKind P w A (.DictComp kx vx [⟨tg, iter, ifs, 0⟩] scope pos) tg iter ifs newDict newDicObj (dicBody P w A kx vx) where
  clauses := rfl
  fake := rfl
  new := fun s Q E h => wpAny_newObj_type h
  start := fun env it D R s h0 h => codeAny_compStart_dict h0 h
  loop := fun env it D R I turn n s h => compLoop_anyD I turn n h
end Mini

set_option Elab.async false
set_option linter.all false
set_option maxRecDepth 100000
set_option maxHeartbeats 4000000
namespace Mini
open PySem PySem.Spec PyProof.Rows L2
theorem cx_it {J : It} {n : Nat} {G : Hp → Prop} {Y : Nat → Hp → V → Hp → Prop} (w : Walk J n G Y) {g : TG} {tt : TT} {tb : Addr → L2.St → Hp → (Hp → Prop) → Prop} {vs : List Nat} {σ : L2.St} {H1 : Hp} {D : Addr} {Qd : Hp → Prop} (Pv : Nat → Hp → Prop) (h0 : Pv 0 H1) (hG : ∀ i H, i ≤ n → Pv i H → G H)
    (hs : ∀ i x H H', i < n → Pv i H → Y i H x H' → g x (wipe σ vs) H' fun σ2 H2 => wipe σ2 vs = wipe σ vs ∧ tt σ2 H2 fun b H3 => if b = true then tb D σ2 H3 (Pv (i + 1)) else Pv (i + 1) H3) (hd : ∀ H, Pv n H → Qd H) :
    ∃ W : Nat → Nat → Hp → Prop, (∃ m, W 0 m H1) ∧ ∀ i m H, W i m H →
      (J.stop i H ∧ Qd H) ∨ (J.go i H ∧ ∃ Nx : Hp → Prop, (∀ H', Nx H' → ∃ m', m' < m ∧ W (i + 1) m' H') ∧ ∀ x H', J.yld i H x H' → g x (wipe σ vs) H' fun σ2 H2 => wipe σ2 vs = wipe σ vs ∧ tt σ2 H2 fun b H3 => if b = true then tb D σ2 H3 Nx else Nx H3) := by
  refine ⟨fun i m H => m = n - i ∧ i ≤ n ∧ Pv i H, ⟨n, by simp, Nat.zero_le _, h0⟩, ?_⟩
  rintro i m H ⟨rfl, hi, p⟩
  have q := hG i H hi p
  by_cases hlt : i < n
  · exact .inr ⟨w.goes i H hlt q, Pv (i + 1), fun H' p' => ⟨n - (i + 1), by omega, rfl, hlt, p'⟩, fun x H' y => hs i x H H' hlt p (w.yields i H x H' hlt q y)⟩
  · have e : i = n := by omega
    subst e
    exact .inl ⟨w.stops H q, hd H p⟩
/-- what is being filled -/
structure AccKind (w : World) (K : PySem.W.Frag) (ob0 : Obj) {α : Type} (acc0 : α) (at_ : Hp → Hp → Addr → α → Prop) (val : α → Val) : Prop where
  mono : ∀ Hf Hf' H D a, Same Hf Hf' → at_ Hf H D a → at_ Hf' H D a
  look : ∀ Hf H H' D a, H' D = H D → at_ Hf H D a → at_ Hf H' D a
  start : ∀ Hf H D, D ≠ sysModules → at_ Hf (upd H D (exO D ob0)) D acc0
  owned : ∀ a, (val a).owned = true
  rv : ∀ Hf H L D a, at_ Hf H D a → ¬ DrAll L D → RV w K Hf H L (.ref D) (val a)
theorem exO_nfrz {a : Addr} {o : Obj} : ∀ ob q, exO a o ≠ .frz ob q := fun _ _ h => by unfold exO at h; cases h
section
variable {X : Cx} {Γ : Env} {xcl : Str → Option Addr} {fx : Fx} {W : WX} {N : List Str} {sc : Scope} {st : Str → Bool} {k : Nat} {pos : Pos} {m : Bool}
def cxStep {β : Type} (Γ : Env) (vs : List Nat) (tg : Tg) (ts : Tsts) (mk : M (Option β)) (x : PyData) : M (Option β) := wipeM vs >>= fun _ => asgT tg (.d x) >>= fun _ => evts Γ ts >>= fun b => if b = true then mk else pure none
theorem s_cx {α β : Type} {acc0 : α} {at_ : Hp → Hp → Addr → α → Prop} {val : α → Val} {ob0 : Obj} {cond : α → β → Bool} {put : α → β → α} {mk : M (Option β)} {tb : Addr → L2.St → Hp → (Hp → Prop) → Prop} (ak : AccKind X.w X.K ob0 acc0 at_ val)
    {ce : Expr} {e : E} {own : List (Str × Nat)} {tg : Tg} {it : Itr} {ts : Tsts} (hev : ∀ S, ev Γ e m S = (evi Γ it >>= fun xs => blockM (own.map (·.2)) (cGo cond put (cxStep Γ (own.map (·.2)) tg ts mk) xs acc0) >>= fun ys => pure (val ys)) S)
    (hin : ∀ j ∈ tgSlots tg, j ∈ own.map (·.2))
    (hp : PEA X ce (tCx ob0 (tI (cfg X Γ xcl fx) W it) (gT (cfg X Γ xcl fx) tg) (tTs (cfg X Γ xcl fx) WF ts) tb (own.map (·.2))))
    (hbody : ∀ (σ2 : L2.St) (H3 : Hp) (p3 : Pt) (acc : α) (D : Addr) (Nx : Hp → Prop) (kk : Option β → Sta → Prop), (cfg X Γ xcl fx).sim p3 H3 σ2 → Fill (cfg X Γ xcl fx) p3 H3 σ2 D → at_ p3.Hf H3 D acc → OutP (mk p3.S) kk (fun _ _ => False) →
      (∀ y S', kk (some y) S' → cond acc y = true) →
      (∀ (p5 : Pt) (H4 : Hp) (ob : Obj) (y : β), kk (some y) p5.S → (cfg X Γ xcl fx).sim p5 H4 σ2 → Step p3 H3 p5 H4 σ2 → at_ p5.Hf (upd H4 D (exO D ob)) D (put acc y) → Nx (upd H4 D (exO D ob))) → tb D σ2 H3 Nx) :
    PEA X ce (tE (cfg X Γ xcl fx) W e m) := by
  refine hp.weak fun σ H Q ⟨p, s, q⟩ => ?_
  have q : OutP (ev Γ e m p.S) _ _ := q
  rw [hev] at q
  refine ⟨p, s, outP_mono (outP_bind q) (fun xs S' q1 J H1 p1 ep s1 st1 itr D hD hsys => ?_) fun _ _ z => z⟩
  subst ep
  generalize hvs : own.map (·.2) = vs at q1 ⊢
  rw [hvs] at hin
  obtain ⟨Y, wk, hy⟩ := itr.ex
  obtain ⟨hv, q1⟩ := block_of (outP_bind q1)
  obtain ⟨s2, _⟩ := s1.layO (o := exO D ob0) hD
  have fl2 : Fill (cfg X Γ xcl fx) p1 (upd H1 D (exO D ob0)) σ D := Fill.new s1 hD exO_nfrz
  have mv0 : Mov p1 H1 σ p1 (upd H1 D (exO D ob0)) σ := (Mov.of (Step.refl p1 H1 σ)).put hD
  have base : (cfg X Γ xcl fx).sim (p1.wiped vs) (upd H1 D (exO D ob0)) (wipe σ vs) ∧ Mov p1 H1 σ (p1.wiped vs) (upd H1 D (exO D ob0)) (wipe σ vs) ∧ Fill (cfg X Γ xcl fx) (p1.wiped vs) (upd H1 D (exO D ob0)) (wipe σ vs) D :=
    ⟨Sim.wipe (c := cfg X Γ xcl fx) s2 vs, mv0.trans (Mov.wipe p1 _ σ vs), (fl2.mov (Mov.wipe p1 _ σ vs)).1⟩
  refine cx_it wk (fun i Hh => ∃ (pp : Pt) (acc : α), (cfg X Γ xcl fx).sim (pp.wiped vs) Hh (wipe σ vs) ∧ Mov p1 H1 σ (pp.wiped vs) Hh (wipe σ vs) ∧ Fill (cfg X Γ xcl fx) (pp.wiped vs) Hh (wipe σ vs) D ∧ at_ pp.Hf Hh D acc ∧
      OutP (cGo cond put (cxStep Γ vs tg ts mk) (xs.drop i) acc pp.S) (fun ys S' => OutP ((pure (val ys) : M Val) { S' with ρ := backR p1.S.ρ S'.ρ vs }) (fun val S' => ∀ v H' p', p'.S = S' → (cfg X Γ xcl fx).sim p' H' σ → Step p H p' H' σ → (cfg X Γ xcl fx).rv p' H' v val → (m = true → Fresh H p' v val) → Q v H') (EW (cfg X Γ xcl fx) W σ p)) (fun _ _ => False)) ?_ ?_ ?_ ?_
  · refine ⟨p1.wiped vs, acc0, ?_, ?_, ?_, ak.start _ _ _ hsys, q1⟩
    · rw [wiped_idem]; exact base.1
    · rw [wiped_idem]; exact base.2.1
    · rw [wiped_idem]; exact base.2.2
  · rintro i Hh _ ⟨pp, acc, a1, a2, _⟩
    exact a2.hf.trans a1.sub
  · rintro i v Hh H' hlt ⟨pp, acc, a1, a2, a3, a4, a6⟩ yy
    obtain ⟨d, ed⟩ : ∃ d, xs[i]? = some d := ⟨_, List.getElem?_eq_getElem hlt⟩
    have hdrop : xs.drop i = d :: xs.drop (i + 1) := by
      rw [List.drop_eq_getElem_cons hlt]
      rw [List.getElem?_eq_getElem hlt] at ed
      rw [Option.some.inj ed]
    rw [hdrop] at a6
    have a6 := outP_bind (show OutP ((cxStep Γ vs tg ts mk d >>= fun o => match o with | some y => (if cond acc y then cGo cond put (cxStep Γ vs tg ts mk) (xs.drop (i + 1)) (put acc y) else M.no) | none => cGo cond put (cxStep Γ vs tg ts mk) (xs.drop (i + 1)) acc) pp.S) _ _ from a6)
    have sm : Same p1.Hf pp.Hf := a2.hf
    refine turn_read (c := cfg X Γ xcl fx) (p0 := p1) (H0 := H1) (D := D) (te := fun σ2 H3 _ => tb D σ2 H3 _) (Q := fun _ _ => True) hin a1 a2 hD a3 ?_ a6 (fun H3 p3 q3 s3 m3 f3 sm3 kD => ?_) fun σ2 H3 p3 hw q3 s3 m3 f3 sm3 kD => ?_
    · rcases hy i d Hh v H' (sm.trans a1.sub) ed yy with ⟨h1, h2⟩ | ⟨T, ws, ds, h1, h2, h3, h4, h5⟩
      · exact .inl ⟨h1, Rp.mono sm _ _ h2⟩
      · exact .inr ⟨T, ws, ds, h1, h2, h3, RpAll.mono sm _ _ h4, h5⟩
    · exact ⟨p3, acc, s3, m3, f3, ak.mono _ _ _ _ _ sm3 (ak.look _ _ _ _ _ kD a4), q3⟩
    · refine hbody σ2 H3 p3 acc D _ _ s3 f3 (ak.mono _ _ _ _ _ sm3 (ak.look _ _ _ _ _ kD a4)) q3 (fun y S' z => ?_) fun p5 H4 ob y q4 s5 st5 a5 => ?_
      · have z : OutP ((if cond acc y then cGo cond put (cxStep Γ vs tg ts mk) (xs.drop (i + 1)) (put acc y) else M.no) S') _ _ := z
        split at z
        · assumption
        · exact z.elim
      · have q4 : OutP ((if cond acc y then cGo cond put (cxStep Γ vs tg ts mk) (xs.drop (i + 1)) (put acc y) else M.no) p5.S) _ _ := q4
        split at q4
        · obtain ⟨f5, _⟩ := f3.mov (Mov.of st5)
          obtain ⟨s6, f6⟩ := f5.put (o := exO D ob) s5 exO_nfrz
          have m6 := ((m3.trans (Mov.of st5)).put (o := exO D ob) hD).trans (Mov.wipe p5 (upd H4 D (exO D ob)) σ2 vs)
          have s7 := Sim.wipe (c := cfg X Γ xcl fx) s6 vs
          obtain ⟨f7, _⟩ := f6.mov (Mov.wipe p5 (upd H4 D (exO D ob)) σ2 vs)
          rw [hw] at m6 s7 f7
          exact ⟨p5, put acc y, s7, m6, f7, a5, q4⟩
        · exact q4.elim
  · rintro Hh ⟨pp, acc, a1, a2, a3, a4, a6⟩
    rw [List.drop_length] at a6
    have a6 : ∀ v H' p', p'.S = { pp.S with ρ := backR p1.S.ρ pp.S.ρ vs } → (cfg X Γ xcl fx).sim p' H' σ → Step p H p' H' σ → (cfg X Γ xcl fx).rv p' H' v (val acc) → (m = true → Fresh H p' v (val acc)) → Q v H' := a6
    obtain ⟨s8, m8⟩ := Sim.back (c := cfg X Γ xcl fx) s1 a1 a2 hv
    exact a6 (.ref D) Hh ⟨{ pp.S with ρ := backR p1.S.ρ pp.S.ρ vs }, pp.Hf, pp.L⟩ rfl s8 (st1.trans m8.step) (ak.rv _ _ _ _ _ a4 a3.dr) fun _ _ => ⟨D, rfl, st1.none_of hD, a3.hf⟩
end
end Mini

set_option Elab.async false
set_option linter.all false
set_option maxRecDepth 100000
set_option maxHeartbeats 4000000
namespace Mini
open PySem PySem.Spec PyProof.Rows L2
section
variable {w : World} {K : PySem.W.Frag}
theorem setAcc : AccKind w K (newSetObj w) ([] : List PyData) (SetAt w K) Val.os where
  mono := fun Hf Hf' H D a sm h => by
    obtain ⟨o, es, ep, t, ys, h1, h2, h3, h5, h6⟩ := h
    exact ⟨o, es, ep, t, ys, h1, h2, h3, E3.mono sm h5, h6⟩
  look := fun Hf H H' D a e h => by
    obtain ⟨o, es, ep, t, ys, h1, h2⟩ := h
    exact ⟨o, es, ep, t, ys, e.trans h1, h2⟩
  start := fun Hf H D _ => ⟨newSetObj w, #[], 0, .fresh 0 0 (!w.params.followText "set-order"), [], upd_same, ⟨rfl, rfl, rfl⟩, rfl, .nil, List.Perm.refl _, rfl, List.Pairwise.nil, by
      show _ ∨ (!w.params.followText "set-order") = true
      cases w.params.followText "set-order"
      · exact .inr rfl
      · exact .inl rfl, rfl, by show 0 < 4000; decide, fun _ => ⟨⟨List.Pairwise.nil, rfl, rfl, .inl rfl, fun x hx => (by cases hx), fun i h j hi => (by simp at hi)⟩, by show 0 * 5 < 7 * 3; decide, by show 0 < 64; decide⟩⟩
  owned := fun _ => rfl
  rv := fun Hf H L D a h n => ⟨D, rfl, h, n⟩
theorem dicAcc : AccKind w K newDicObj ([] : List (PyData × PyData)) (DicAt w K) Val.od where
  mono := fun Hf Hf' H D a sm h => h.mono sm
  look := fun Hf H H' D a e h => by
    obtain ⟨o, es, ep, kw, vw, h1, h2⟩ := h
    exact ⟨o, es, ep, kw, vw, e.trans h1, h2⟩
  start := fun Hf H D hs => ⟨newDicObj, #[], 0, [], [], upd_same, beq_eq_false_iff_ne.mpr hs, ⟨rfl, rfl, rfl⟩, rfl, .nil, .nil, .nil, .nil, rfl, rfl⟩
  owned := fun _ => rfl
  rv := fun Hf H L D a h n => ⟨D, rfl, h, n⟩
end
section
variable {X : Cx} {Γ : Env} {xcl : Str → Option Addr} {fx : Fx} {W : WX} {N : List Str} {sc : Scope} {st : Str → Bool} {k : Nat} {pos : Pos} {m : Bool}
def tbS (c : Cfg) (elt : E) : Addr → L2.St → Hp → (Hp → Prop) → Prop := fun D σ H Nx => tE c WF elt true σ H fun y H4 => ∃ (Hf : Hp) (xs : List PyData) (d : PyData), Same Hf H4 ∧ SetAt c.w c.K Hf H4 D xs ∧ Rp c.w c.K Hf y d ∧ keysWith xs d = true ∧ xs.length < 60 ∧
  ∀ ob, SetAt c.w c.K Hf (upd H4 D (exO D ob)) D (sPut xs d) → Nx (upd H4 D (exO D ob))
theorem pb_set {elt : E} {x : Expr} (hu : X.A.units + 66 < cLine) (he : PE X x (tE (cfg X Γ xcl fx) WF elt true)) (hx : X.xe = fun _ _ => False) : PB X (setBody X.prog X.w X.A x) (tbS (cfg X Γ xcl fx) elt) where
  run := fun D pins s σ H Nx E I h => by
    have r := he.run pins s σ H _ I h
    rw [hx] at r
    refine thnF r fun u s4 ⟨y, H4, I4, ry, Hf, xs, d, sm, sa, rp, hw, hz, q⟩ => ?_
    refine set_add hu I4 sm sa rp ry hw ?_ fun o' s' I' sa' => ⟨_, I', q o' sa'⟩
    split <;> omega
  mono := fun D s A B E h r => wpAny_mono r (fun u s4 z => wpAny_mono z (fun _ s5 z => h s5 z) fun _ _ z => z) fun _ _ z => z
theorem s_sc {own : List (Str × Nat)} {tg : Tg} {it : Itr} {ts : Tsts} {elt : E} {x t i : Expr} {ifs : List Expr} {scope : Scope} (ok : XOk Γ xcl W N sc st k X) (hcl : clauseB N own tg i ifs = true) (hb : blkC N sc scope own = true)
    (hi : PI X t i (tI (cfg X Γ xcl fx) W it))
    (hg : ∀ (s : Shared) (H : Hp) (C : Addr) (cl : List (Str × Addr)) (fp : List Addr), PG (X.blk s H scope (compEnvC scope cl C X.env) fp) t (gT (cfg X Γ xcl fx) tg))
    (ht : ∀ (s : Shared) (H : Hp) (C : Addr) (cl : List (Str × Addr)) (fp : List Addr), PTs (X.blk s H scope (compEnvC scope cl C X.env) fp) ifs (tTs (cfg X Γ xcl fx) WF ts))
    (he : ∀ (s : Shared) (H : Hp) (C : Addr) (cl : List (Str × Addr)) (fp : List Addr), PE (X.blk s H scope (compEnvC scope cl C X.env) fp) x (tE (cfg X Γ xcl fx) WF elt true)) :
    PEA X (.SetComp x [⟨t, i, ifs, 0⟩] scope pos) (tE (cfg X Γ xcl fx) W (.sc own tg it ts elt) m) := by
  have co := clause_of hcl
  have bk : BlkOk X.N X.env.scope scope own := by rw [ok.hN, ok.sc]; exact blkOk_by hb
  have hu : X.A.units + 66 < cLine := by have := ok.room.un; omega
  refine s_cx (mk := ev Γ elt true >>= fun v => M.of (Mini.getD v) >>= fun y => pure (some y)) (cond := scCond) (put := sPut) (tb := tbS (cfg X Γ xcl fx) elt) setAcc (fun _ => rfl) co.inn (pe_comp (pos' := firstIterPos [⟨t, i, ifs, 0⟩] pos) rfl (fun _ => rfl) setKind ok.calm (by rw [ok.hN]; exact ok.nd) hi bk hg ht (fun s H C cl fp => pb_set (X := X.blk s H scope (compEnvC scope cl C X.env) fp) hu (he s H C cl fp) rfl) (fun _ => co.set _ _)) fun σ2 H3 p3 acc D Nx kk s3 f3 a3 q hcond hfin => ?_
  refine tE.intro s3 (outP_bind q) (fun val y H4 p4 q4 s4 st4 rv fr => ?_) fun _ _ z => z.elim
  obtain ⟨dy, e, q4⟩ := outP_of (outP_bind q4)
  obtain ⟨p5, e5, s5, st5, rv5, _, _⟩ := Sim.frzNew s4 st4 s3 rv (getD_of e) (fr rfl)
  have q4 : kk (some dy) p4.S := outP_pure q4
  have hc := hcond dy _ q4
  unfold scCond at hc
  rw [Bool.and_eq_true, decide_eq_true_eq] at hc
  obtain ⟨_, k5⟩ := f3.mov (Mov.of st5)
  exact ⟨p5.Hf, acc, dy, s5.sub, setAcc.mono _ _ _ _ _ st5.hf (setAcc.look _ _ _ _ _ k5 a3), rv5, hc.1, hc.2, fun ob sa => hfin p5 H4 ob dy (by rw [e5]; exact q4) s5 st5 sa⟩
def tbD (c : Cfg) (ke ve : E) : Addr → L2.St → Hp → (Hp → Prop) → Prop := fun D σ H Nx => tE c WF ke true σ H fun y H4 => tE c WF ve true σ H4 fun z H5 => ∃ (Hf : Hp) (xs : List (PyData × PyData)) (d dv : PyData), Same Hf H5 ∧ DicAt c.w c.K Hf H5 D xs ∧ Rp c.w c.K Hf y d ∧ Rp c.w c.K Hf z dv ∧ keysWith (xs.map (·.1)) d = true ∧ xs.length ≤ sizeLine ∧
  ∀ ob, DicAt c.w c.K Hf (upd H5 D (exO D ob)) D (dPut xs d dv) → Nx (upd H5 D (exO D ob))
theorem pb_dic {ke ve : E} {x y : Expr} (hu : X.A.units + 66 < cLine) (hk : PE X x (tE (cfg X Γ xcl fx) WF ke true)) (he : PE X y (tE (cfg X Γ xcl fx) WF ve true)) (hx : X.xe = fun _ _ => False) : PB X (dicBody X.prog X.w X.A x y) (tbD (cfg X Γ xcl fx) ke ve) where
  run := fun D pins s σ H Nx E I h => by
    have r := hk.run pins s σ H _ I h
    rw [hx] at r
    refine thnF r fun u s4 ⟨y, H4, I4, ry, h2⟩ => ?_
    have r := he.run pins s4 σ H4 _ I4 h2
    rw [hx] at r
    refine thnF r fun u' s5 ⟨z, H5, I5, rz, Hf, xs, d, dv, sm, da, rp, rp2, hw, hz, q⟩ => ?_
    exact ask_dset (by omega) I5 ⟨sm, da, Rp.mono sm _ _ rp, hw⟩ rp ry rp2 rz hz fun o' s' I' da' => ⟨_, I', q o' da'⟩
  mono := fun D s A B E h r => wpAny_mono r (fun u s4 z => wpAny_mono z (fun _ s5 z => wpAny_mono z (fun _ s6 z => h s6 z) fun _ _ z => z) fun _ _ z => z) fun _ _ z => z
theorem s_dc {own : List (Str × Nat)} {tg : Tg} {it : Itr} {ts : Tsts} {ke ve : E} {x y t i : Expr} {ifs : List Expr} {scope : Scope} (ok : XOk Γ xcl W N sc st k X) (hcl : clauseB N own tg i ifs = true) (hb : blkC N sc scope own = true)
    (hi : PI X t i (tI (cfg X Γ xcl fx) W it))
    (hg : ∀ (s : Shared) (H : Hp) (C : Addr) (cl : List (Str × Addr)) (fp : List Addr), PG (X.blk s H scope (compEnvC scope cl C X.env) fp) t (gT (cfg X Γ xcl fx) tg))
    (ht : ∀ (s : Shared) (H : Hp) (C : Addr) (cl : List (Str × Addr)) (fp : List Addr), PTs (X.blk s H scope (compEnvC scope cl C X.env) fp) ifs (tTs (cfg X Γ xcl fx) WF ts))
    (hk : ∀ (s : Shared) (H : Hp) (C : Addr) (cl : List (Str × Addr)) (fp : List Addr), PE (X.blk s H scope (compEnvC scope cl C X.env) fp) x (tE (cfg X Γ xcl fx) WF ke true))
    (he : ∀ (s : Shared) (H : Hp) (C : Addr) (cl : List (Str × Addr)) (fp : List Addr), PE (X.blk s H scope (compEnvC scope cl C X.env) fp) y (tE (cfg X Γ xcl fx) WF ve true)) :
    PEA X (.DictComp x y [⟨t, i, ifs, 0⟩] scope pos) (tE (cfg X Γ xcl fx) W (.dc own tg it ts ke ve) m) := by
  have co := clause_of hcl
  have bk : BlkOk X.N X.env.scope scope own := by rw [ok.hN, ok.sc]; exact blkOk_by hb
  have hu : X.A.units + 66 < cLine := by have := ok.room.un; omega
  refine s_cx (mk := ev Γ ke true >>= fun v => M.of (Mini.getD v) >>= fun a => ev Γ ve true >>= fun v => M.of (Mini.getD v) >>= fun b => pure (some (a, b))) (cond := dcCond) (put := dcPut) (tb := tbD (cfg X Γ xcl fx) ke ve) dicAcc (fun _ => rfl) co.inn
    (pe_comp (pos' := firstIterPos [⟨t, i, ifs, 0⟩] pos) rfl (fun _ => rfl) dicKind ok.calm (by rw [ok.hN]; exact ok.nd) hi bk hg ht (fun s H C cl fp => pb_dic (X := X.blk s H scope (compEnvC scope cl C X.env) fp) hu (hk s H C cl fp) (he s H C cl fp) rfl) (fun _ => co.set _ _)) fun σ2 H3 p3 acc D Nx kk s3 f3 a3 q hcond hfin => ?_
  refine tE.intro s3 (outP_bind q) (fun val y H4 p4 q4 s4 st4 rv fr => ?_) fun _ _ z => z.elim
  obtain ⟨dy, e, q4⟩ := outP_of (outP_bind q4)
  obtain ⟨p5, e5, s5, st5, rv5, _, _⟩ := Sim.frzNew s4 st4 s3 rv (getD_of e) (fr rfl)
  rw [← e5] at q4
  refine tE.intro s5 (outP_bind q4) (fun val z H5 p6 q6 s6 st6 rv6 fr6 => ?_) fun _ _ z => z.elim
  obtain ⟨dv, e', q6⟩ := outP_of (outP_bind q6)
  obtain ⟨p7, e7, s7, st7, rv7, _, _⟩ := Sim.frzNew s6 st6 s5 rv6 (getD_of e') (fr6 rfl)
  have q6 : kk (some (dy, dv)) p6.S := outP_pure q6
  have hc := hcond (dy, dv) _ q6
  unfold dcCond at hc
  rw [Bool.and_eq_true, decide_eq_true_eq] at hc
  obtain ⟨f5, k5⟩ := f3.mov (Mov.of st5)
  obtain ⟨_, k7⟩ := f5.mov (Mov.of st7)
  exact ⟨p7.Hf, acc, dy, dv, s7.sub, dicAcc.mono _ _ _ _ _ (st5.hf.trans st7.hf) (dicAcc.look _ _ _ _ _ (k7.trans k5) a3), Rp.mono st7.hf _ _ rv5, rv7, hc.1, Nat.le_of_lt hc.2, fun ob da => hfin p7 H5 ob (dy, dv) (by rw [e7]; exact q6) s7 (st5.trans st7) da⟩
end
end Mini

set_option Elab.async false
set_option linter.all false
set_option maxRecDepth 100000
set_option maxHeartbeats 4000000
namespace PySem
open AutoSeq1 (wpAny_loadPart')
theorem mini_enum_newT (l : Addr) (items : Array Value) (n : Nat) (dct : Option Addr) (sl : Array (Option Value)) :
    Meets (Builtin.«enumerate.__new__» ⟨[.type "enumerate", .ref l], []⟩) (fun _ R s => s.heap.get? l = some { cls := .type "tuple", dict := dct, data := .seq items n, slots := sl } ∧
      R (.ok (.ret (.ref (s.heap.push { cls := .type "tuple_iterator", data := .fields #[.ref l, .int 0 0] }).objs.size)))
        { s with heap := (s.heap.push { cls := .type "tuple_iterator", data := .fields #[.ref l, .int 0 0] }).push { cls := .type "enumerate", data := .fields #[.none, .bool false, .ref s.heap.objs.size, rawInt 0, .none, .none] } }) :=
  .of_wp fun prog w A R s h => by
    obtain ⟨hp, g, d, tk, os⟩ := s
    obtain ⟨hl, h⟩ := h
    have hsub := sub_enumerate
    have hL : Heap.IsTuple (Shared.heap ⟨hp, g, d, tk, os⟩) l items := ⟨_, hl, rfl, n, rfl⟩
    wp_walk using wpAny_loadPart' hl
    refine wpAny_stack_any fun st => wpAny_pure ?_
    split
    · rename_i c _ _ _ _ _
      cases (c == Value.type "enumerate")
      · wp_walk using wpAny_loadPart' hl, wpAny_pyIter_tuple hL
        exact ⟨_, rfl, h⟩
      · wp_walk using wpAny_loadPart' hl, wpAny_pyIter_tuple hL
        exact ⟨_, rfl, h⟩
    · wp_walk using wpAny_loadPart' hl, wpAny_pyIter_tuple hL
      exact ⟨_, rfl, h⟩
end PySem
namespace Mini
open PySem PySem.Spec PyProof.Rows L2
/-! ### enumerate over a tuple -/
section
variable {P : Program} {w : World} {A : Around} {E : Value → Shared → Prop} {s : Shared}
theorem call_enumT {l : Addr} {items : Array Value} {Q : Value → Shared → Prop} (hL : s.heap.IsTuple l items)
    (h : ∀ h', IsEnum h' (s.heap.objs.size + 1) s.heap.objs.size 0 .none → h'.IsTupleIter s.heap.objs.size l 0 → (∀ b o, s.heap.get? b = some o → h'.get? b = some o) → Q (.ref (s.heap.objs.size + 1)) { s with heap := h' }) :
    wpAny (model P w) A (call (.type "enumerate") [.ref l]) Q E s := by
  obtain ⟨⟨c, dct, dt, sl⟩, hl, hc, n, hd⟩ := hL
  cases (show c = .type "tuple" from hc)
  cases (show dt = .seq items n from hd)
  refine callType_new F.called_enumerate (by decide) (F.typeCall_enumerate_1 _) (F.newCall_enumerate_1 _) (fun obj => F.args_object_init_2 obj _) F.entry_enumerate_new (PySem.mini_enum_newT l items n dct sl) ⟨hl, ?_⟩
  have hz : (s.heap.push { cls := .type "tuple_iterator", data := .fields #[.ref l, .int 0 0] }).objs.size = s.heap.objs.size + 1 := Heap.size_push ..
  show _ ∧ _
  rw [hz]
  have he : IsEnum ((s.heap.push { cls := .type "tuple_iterator", data := .fields #[.ref l, .int 0 0] }).push { cls := .type "enumerate", data := .fields #[.none, .bool false, .ref s.heap.objs.size, rawInt 0, .none, .none] }) (s.heap.objs.size + 1) s.heap.objs.size 0 .none := by
    have := Heap.get?_push_size (s.heap.push { cls := .type "tuple_iterator", data := .fields #[.ref l, .int 0 0] }) (o := { cls := .type "enumerate", data := .fields #[.none, .bool false, .ref s.heap.objs.size, rawInt 0, .none, .none] }) rfl
    rw [hz] at this; exact this
  exact ⟨⟨_, he, rfl⟩, h _ he ⟨_, Heap.get?_push_of_some _ (Heap.get?_push_size _ rfl), rfl, rfl⟩ fun b o x => Heap.get?_push_of_some _ (Heap.get?_push_of_some _ x)⟩
end
def IteT (K : PySem.W.Frag) (a : Addr) : It :=
  ⟨fun i H => ∃ (xs : List V) (x : V), SqT K H a xs ∧ xs[i]? = some x, fun i H v H' => ∃ T x, v = .ref T ∧ H T = none ∧ H' = upd H T (.tup [.int (i : Nat), x]) ∧ ∀ xs, SqT K H a xs → xs[i]? = some x, fun i H => ∃ xs : List V, SqT K H a xs ∧ xs.length = i⟩
theorem turn_enumT {P : Program} {w : World} {K : PySem.W.Frag} {elts : List Expr} {kk : Nat} {tpos : Pos} (a e it : Addr) :
    Turn P w K (.Tuple elts kk tpos) (IteT K a) [e, it] e (fun i h => (∃ old, IsEnum h e it ((i : Nat) : Int) old) ∧ h.IsTupleIter it a i ∧ e ≠ it) where
  mem := by simp
  obj := fun i h st b hb => by
    obtain ⟨⟨old, he⟩, ⟨o, ho, hc, hd⟩, _⟩ := st
    have e' : b = e ∨ b = it := by simpa using hb
    rcases e' with z | z
    · rw [z]; exact ⟨_, he, fun v q => nomatch q⟩
    · rw [z]; exact ⟨o, ho, fun v q => by rw [hd] at q; cases q⟩
  keep := fun i h h' st k => let ⟨⟨old, he⟩, hi, hne⟩ := st; ⟨⟨old, k e (by simp) _ he⟩, hi.at fun o q => k it (by simp) o q, hne⟩
  item := by
    intro X hP hw hK hc i pins s σ H E I hf st hg
    subst hP hw hK
    obtain ⟨⟨old, he⟩, hit, hne⟩ := st
    obtain ⟨xs, x, hq, hx⟩ := hg
    obtain ⟨its, rv, p, hz⟩ := I.tuple hq
    obtain ⟨u, hu, ru⟩ := rv.get hx
    have hel : e < s.heap.objs.size := Heap.lt_size he
    have hil : it < s.heap.objs.size := by obtain ⟨_, q, _⟩ := hit; exact Heap.lt_size q
    have hta : s.heap.IsTuple a its.toArray := p
    have hea : e ≠ a := fun z => by
      obtain ⟨o, ho, hcl, _⟩ := hta
      rw [← z, he] at ho
      cases ho
      have hcl : Value.type "enumerate" = Value.type "tuple" := hcl
      exact absurd hcl (by decide)
    have hia : a ≠ it := fun z => by
      obtain ⟨o, ho, hcl, _⟩ := hta
      obtain ⟨o', ho', hcl', _⟩ := hit
      rw [z, ho'] at ho
      cases ho
      rw [hcl] at hcl'
      exact absurd hcl' (by decide)
    have hlt : i < its.toArray.size := by
      have := (List.getElem?_eq_some_iff.mp hu).1
      simpa using this
    refine wpAny_pyNext_enum_itemD (Draws.tuple (A := X.A.in1) (I.ok.hd hc) it a hia its.toArray) he ⟨hit, hta⟩ hlt hne (by simp [hne, hea]) fun x' h' tk hP ho hit' hT hsz hk => ?_
    have ex : x' = u := by
      have hP : its.toArray[i]? = some x' := hP
      have hu' : its.toArray[i]? = some u := by simpa using hu
      rw [hu'] at hP
      exact (Option.some.inj hP).symm
    subst ex
    refine ⟨_, rfl, wpAny_letOwnedTupleGo_enum (s := { s with heap := h', toks := tk + 1 }) ho fun h'' he' sb => ?_⟩
    have hT2 : h''.get? s.heap.objs.size = some { cls := .type "tuple", data := .seq #[.int i tk, x'] } := (sb.2 _ (Nat.ne_of_gt hel)).trans hT
    have new : ObjOk X.prog X.w (upd H s.heap.objs.size (.tup [.int (i : Nat), x])) h'' s.heap.objs.size (.tup [.int (i : Nat), x]) :=
      ⟨by show 2 ≤ sizeLine; decide, [.int i tk, x'], .cons ⟨_, rfl⟩ (.cons ru .nil), ⟨_, hT2, rfl, _, rfl⟩⟩
    have I1 : Inv X pins σ (upd H s.heap.objs.size (.tup [.int (i : Nat), x])) { s with heap := h'', toks := tk + 1 } :=
      I.turnedNew (ch := [e, it]) (fun b ob hb q => (sb.2 b (fun z => hb (by simp [z]))).trans (hk b ob (fun z => hb (by simp [z])) (fun z => hb (by simp [z])) q)) hf (Nat.le_refl _) new
    refine ⟨.ref s.heap.objs.size, _, I1, rfl, ⟨_, x, rfl, I.hok.fresh (Nat.le_refl _), rfl, fun ys hy => by rw [I.tuple_inj hy hq]; exact hx⟩, ⟨⟨x', ?_⟩, hit'.1.at fun o q => (sb.2 it (Ne.symm hne)).trans q, hne⟩, fun b hb => ?_⟩
    · have e1 : ((i + 1 : Nat) : Int) = (i : Int) + 1 := by omega
      rw [e1]; exact he'
    · have hb' : b < s.heap.objs.size := by
        have e' : b = e ∨ b = it := by simpa using hb
        rcases e' with z | z
        · rw [z]; exact hel
        · rw [z]; exact hil
      rw [upd_ne (Nat.ne_of_lt hb')]
      exact (hf b hb).1
  done := by
    intro X hP hw hK hc i pins s σ H E I hf st hg
    subst hP hw hK
    obtain ⟨⟨old, he⟩, hit, hne⟩ := st
    obtain ⟨xs, hq, hx⟩ := hg
    obtain ⟨its, rv, p, hz⟩ := I.tuple hq
    obtain ⟨f0, f1, f2, f3, f4, f5⟩ := hf it (by simp)
    have hta : s.heap.IsTuple a its.toArray := p
    have hia : a ≠ it := fun z => by
      obtain ⟨o, ho, hcl, _⟩ := hta
      obtain ⟨o', ho', hcl', _⟩ := hit
      rw [z, ho'] at ho
      cases ho
      rw [hcl] at hcl'
      exact absurd hcl' (by decide)
    have hl : i = its.toArray.size := by rw [← hx, rv.length]; simp
    exact wpAny_pyNext_enum_endD (Draws.tuple (A := X.A.in1) (I.ok.hd hc) it a hia its.toArray) he (by rw [← hl]; exact ⟨hit, hta⟩) fun h' eb => ⟨rfl, I.turned (t' := s.toks) (fun b o hb q => eb b o hb q) f0 f1 f3 f4 f5⟩
  self := fun A i s Q E st h => let ⟨⟨_, he⟩, _⟩ := st; wpAny_pyIter_enum he h
def iEnumT (K : PySem.W.Frag) (ta : TA) : TI := fun σ H R => ta σ H fun vs H1 => ∃ a xs, vs = [.ref a] ∧ SqT K H1 a xs ∧ R (IteT K a) H1
theorem pi_enumT {X : Cx} {e : Expr} {ta : TA} {p pos tpos : Pos} {elts : List Expr} {kk : Nat} (hg : Gl X "enumerate") (hm : X.mg "enumerate" = none) (ha : PA X [e] ta) (hs : starEach [e] X.env = [(false, eval e X.env)]) :
    PI X (.Tuple elts kk tpos) (.Call (.Name "enumerate" p) [e] [] pos) (iEnumT X.K ta) := by
  refine ⟨fun pins s σ H R I h => ?_⟩
  refine Call_ (ld_blt I hg hm boot_enumerate (PyProof.Rows.callWith_type1 (thn (ha.run pos pins s σ H _ I h) fun us s1 ⟨vs, H1, I1, r1, q1⟩ => ?_) hs rfl))
  obtain ⟨a, xs, ex, hq, q⟩ := q1
  subst ex
  cases r1 with
  | cons r rr =>
    cases rr
    cases r
    obtain ⟨its, rv, p', hz⟩ := I1.tuple hq
    refine call_enumT (show s1.heap.IsTuple a its.toArray from p') fun h' he hit hk => wpAny_pyIter_enum he ?_
    have I2 : Inv X pins σ H1 { s1 with heap := h' } := I1.kept (t' := s1.toks) hk
    refine ⟨s1.heap.objs.size + 1, [s1.heap.objs.size + 1, s1.heap.objs.size], _, _, H1, rfl, I2, turn_enumT a (s1.heap.objs.size + 1) s1.heap.objs.size, ⟨⟨.none, he⟩, hit, Nat.succ_ne_self _⟩, fun b hb => ?_, q⟩
    have e' : b = s1.heap.objs.size + 1 ∨ b = s1.heap.objs.size := by simpa using hb
    have hle : s1.heap.objs.size ≤ b := by
      rcases e' with z | z
      · rw [z]; exact Nat.le_add_right _ _
      · rw [z]; exact Nat.le_refl _
    exact I1.fpOk hle (I1.hok.fresh hle)
theorem walk_enumT {K : PySem.W.Frag} {a : Addr} {xs : List V} : Walk (IteT K a) xs.length (fun H => SqT K H a xs) (YPair (fun i => some (.int (i : Nat))) (fun i => xs[i]?)) := by
  refine ⟨fun i _ hi q => ⟨xs, xs[i], q, by simp [hi]⟩, fun _ q => ⟨xs, q, rfl⟩, fun i H v H' _ q y => ?_⟩
  obtain ⟨T, x, h1, h2, h3, h4⟩ := y
  exact ⟨T, .int (i : Nat), x, h1, h2, h3, rfl, h4 xs q⟩
theorem enumL_len : ∀ (n : Nat) (xs : List PyData), (enumL n xs).length = xs.length
  | _, [] => rfl
  | n, _ :: r => by unfold enumL; rw [List.length_cons, enumL_len (n + 1) r, List.length_cons]
theorem enumL_get : ∀ (n : Nat) (xs : List PyData) (i : Nat) (d : PyData), (enumL n xs)[i]? = some d → ∃ x, xs[i]? = some x ∧ d = .tuple [.int ((n + i : Nat) : Int), x]
  | n, [], i, d, h => by simp [enumL] at h
  | n, x :: r, 0, d, h => by
    unfold enumL at h
    simp at h
    exact ⟨x, by simp, by rw [← h]; simp⟩
  | n, x :: r, i + 1, d, h => by
    unfold enumL at h
    rw [List.getElem?_cons_succ] at h
    obtain ⟨y, e1, e2⟩ := enumL_get (n + 1) r i d h
    refine ⟨y, by simpa using e1, ?_⟩
    rw [e2, show n + 1 + i = n + (i + 1) by omega]
theorem iter_pair {w : World} {K : PySem.W.Frag} {Hf : Hp} {J : It} {vs : List V} {xs : List PyData} {G : Hp → Prop} (wk : Walk J vs.length G (YPair (fun i => some (.int (i : Nat))) (fun i => vs[i]?))) (hG : ∀ H, Same Hf H → G H) (r : RpAll w K Hf vs xs) : Iter w K Hf J (enumL 0 xs) := by
  refine ⟨_, by rw [enumL_len, ← r.length]; exact wk.mono hG fun _ _ _ _ _ _ y => y, fun i x H v H' _ ex y => ?_⟩
  obtain ⟨T, a, b, e1, e2, e3, e4, e5⟩ := y
  obtain ⟨d, q1, q2⟩ := enumL_get 0 xs i x ex
  obtain ⟨d', q3, q4⟩ := r.get' e5
  rw [q1] at q3
  cases q3
  cases e4
  exact .inr ⟨T, _, _, e1, e2, e3, .cons (.int _) (.cons q4 .nil), by rw [q2, Nat.zero_add]⟩
section
variable {X : Cx} {Γ : Env} {xcl : Str → Option Addr} {fx : Fx} {W : WX} {N : List Str} {sc : Scope} {st : Str → Bool} {k : Nat} {pos : Pos} {m : Bool}
theorem i_enm {a : E} {x : Expr} {elts : List Expr} {kk : Nat} {tpos p0 : Pos} (ok : XOk Γ xcl W N sc st k X) (hg : glB sc "enumerate" = true) (hx : notStar x = true) (ha : PE X x (tE (cfg X Γ xcl fx) W a true)) : PI X (.Tuple elts kk tpos) (.Call (.Name "enumerate" p0) [x] [] pos) (tI (cfg X Γ xcl fx) W (.enm a)) := by
  obtain ⟨g1, g2, g3⟩ := gl_of ok hg
  have st1 : starEach [x] X.env = [(false, eval x X.env)] := star_cons [] X.env hx
  have hm := ok.G.bt "enumerate" (by decide)
  refine ((pi_enum g1 hm (pa_cons ha pa_nil st1) st1).or (pi_enumT g1 hm (pa_cons ha pa_nil st1) st1)).weak fun σ H R ⟨p, s, q⟩ => ?_
  have q : OutP ((ev Γ a true >>= fun v => frzM v >>= fun v' => match v' with | .d (.list xs) => pure (enumL 0 xs) | .d (.tuple xs) => pure (enumL 0 xs) | _ => M.no) p.S) _ _ := q
  have q := outP_mono (outP_bind q) (fun v S1 z => outP_bind z) fun _ _ z => z
  cases er : ev Γ a true p.S with
  | no => rw [er] at q; exact q.elim
  | er err S' =>
    refine .inl ⟨p, s, ?_⟩
    rw [er] at q
    show OutP (ev Γ a true p.S) _ _
    rw [er]; exact q
  | ok val S' =>
    rw [er] at q
    obtain ⟨wal, ew, q⟩ := outP_of (show OutP (M.of val.frz S') _ _ from q)
    have go : ∀ {Q : VK}, (∀ v H' p', p'.S = S' → (cfg X Γ xcl fx).sim p' H' σ → Step p H p' H' σ → (cfg X Γ xcl fx).rv p' H' v wal → Q v H') → tE (cfg X Γ xcl fx) W a true σ H Q := fun {Q} hq => by
      refine ⟨p, s, ?_⟩
      show OutP (ev Γ a true p.S) _ _
      rw [er]
      intro v H' p' e s' st' rv fr
      obtain ⟨p2, e2, s2, st2, rv2, ho, _⟩ := Sim.frzNew s' st' s rv ew (fr rfl)
      exact hq v H' p2 (e2.trans e) s2 st2 rv2
    split at q
    · refine .inl (go fun v H' p' e s' st' rv => ?_)
      cases rv with
      | lst h1 h2 => exact ⟨_, _, rfl, .inl (.inl (s'.sub _ _ h1)), outP_pure q _ H' p' e s' st' (iter_pair walk_enum (fun H s => .inl (.inl (s _ _ h1))) h2)⟩
    · refine .inr (go fun v H' p' e s' st' rv => ?_)
      cases rv with
      | tup h1 h2 => exact ⟨_, _, rfl, SqT.same s'.sub h1, outP_pure q _ H' p' e s' st' (iter_pair walk_enumT (fun H s => SqT.same s h1) h2)⟩
    · exact q.elim
end
end Mini

set_option Elab.async false
set_option linter.all false
set_option maxRecDepth 100000
set_option maxHeartbeats 4000000
namespace Mini
open PySem PySem.Spec PyProof.Rows L2
/-! ### statements: their readings -/
def EWS (c : Cfg) (W : WX) (Hf0 : Hp) : Err → Sta → Prop := fun err S' => ∀ cls d σ' H' p', p'.S = S' → c.sim p' H' σ' → Same Hf0 p'.Hf → ExcRep c p'.Hf H' cls d err → W cls d σ' H'
def endK (c : Cfg) (D : Ends) (Hf0 : Hp) : Flw → Sta → Prop := fun f S' => match f with
  | .nx => ∀ σ' H' p', p'.S = S' → c.sim p' H' σ' → Same Hf0 p'.Hf → D.nx σ' H'
  | .bk => ∀ σ' H' p', p'.S = S' → c.sim p' H' σ' → Same Hf0 p'.Hf → D.bk σ' H'
  | .ct => ∀ σ' H' p', p'.S = S' → c.sim p' H' σ' → Same Hf0 p'.Hf → D.ct σ' H'
  | .rt v => ∀ u σ' H' p', p'.S = S' → c.sim p' H' σ' → Same Hf0 p'.Hf → c.rv p' H' u v → (v.owned = true → ∃ a, u = .ref a ∧ c.fx.H0 a = none ∧ p'.Hf a = none) → D.rt u H'
def tS (c : Cfg) (W : WX) (s : S) : TS := fun D σ H => ∃ p, c.sim p H σ ∧ OutP (exec c.Γ s p.S) (endK c D p.Hf) (EWS c W p.Hf)
def tSs (c : Cfg) (W : WX) (s : Ss) : TS := fun D σ H => ∃ p, c.sim p H σ ∧ OutP (execs c.Γ s p.S) (endK c D p.Hf) (EWS c W p.Hf)
section
variable {c : Cfg} {W : WX} {σ : L2.St} {p p1 : Pt} {H H1 : Hp} {D : Ends}
theorem EWS.ew {e : Err} {S : Sta} (h : EWS c W p.Hf e S) : EW c W σ p e S := fun cls d H' p' e1 e2 e3 _ e5 => h cls d σ H' p' e1 e2 e3 e5
theorem EWS.mono {Hf Hf' : Hp} {e : Err} {S : Sta} (h : EWS c W Hf e S) (s : Same Hf Hf') : EWS c W Hf' e S := fun cls d σ' H' p' e1 e2 e3 e5 => h cls d σ' H' p' e1 e2 (s.trans e3) e5
theorem endK.mono {Hf Hf' : Hp} {f : Flw} {S : Sta} (h : endK c D Hf f S) (s : Same Hf Hf') : endK c D Hf' f S := by
  cases f with
  | nx => exact fun σ' H' p' e1 e2 e3 => h σ' H' p' e1 e2 (s.trans e3)
  | bk => exact fun σ' H' p' e1 e2 e3 => h σ' H' p' e1 e2 (s.trans e3)
  | ct => exact fun σ' H' p' e1 e2 e3 => h σ' H' p' e1 e2 (s.trans e3)
  | rt v => exact fun u σ' H' p' e1 e2 e3 => h u σ' H' p' e1 e2 (s.trans e3)
theorem tE_mono {e : E} {m : Bool} {Q Q' : VK} (h : tE c W e m σ H Q) (hq : ∀ v H', Q v H' → Q' v H') : tE c W e m σ H Q' := by
  obtain ⟨p, s, q⟩ := h
  exact ⟨p, s, outP_mono q (fun val S' z v H' p' e1 e2 e3 e4 e5 => hq v H' (z v H' p' e1 e2 e3 e4 e5)) fun _ _ z => z⟩
end
theorem gT_nm {c : Cfg} {i : Nat} {x : Str} {v : V} {σ : L2.St} {H : Hp} {Q : L2.St → Hp → Prop} (h : gT c (.nm i x) v σ H Q) : gName i v σ H Q := by
  obtain ⟨p, val, s, rv, nv, q⟩ := h
  have q : OutP (setSlot i val p.S) _ _ := q
  unfold setSlot at q
  split at q
  · rename_i hi
    refine q (σ.set i (some v)) { p with S := { p.S with ρ := p.S.ρ.set i (some val) } } rfl ⟨?_, rfl, rfl, by rw [List.length_set], fun j hj => ?_, fun b hv ⟨j, u, q1, q2, q3⟩ => ?_, fun j hj => ?_, ?_, rfl, fun j hj u e o => ?_⟩
    · refine s.set rv hi fun z => ?_
      obtain ⟨a, e, n1, n2, n3⟩ := nv z
      exact ⟨a, e, n1, n2, fun j u q1 q2 q3 => (n3 j u q1 q2 q3).elim⟩
    · have hj : j ≠ i := fun z => hj (by rw [z]; exact List.mem_singleton.mpr rfl)
      rw [List.getElem?_set_ne (Ne.symm hj)]
    · have q1 : (p.S.ρ.set i (some val))[j]? = some (some u) := q1
      rcases getSet q1 with ⟨e, e2, _⟩ | ⟨e, q1'⟩
      · have := hv i (List.mem_singleton.mpr rfl) val (show (p.S.ρ.set i (some val))[i]? = some (some val) from List.getElem?_set_self hi)
        rw [e2, this] at q2; cases q2
      · rw [List.getElem?_set_ne (Ne.symm e)] at q3
        exact ⟨j, u, q1', q2, q3⟩
    · have hj : j ≠ i := fun z => hj (by rw [z]; exact List.mem_singleton.mpr rfl)
      show (p.S.ρ.set i (some val))[j]? = _
      rw [List.getElem?_set_ne (Ne.symm hj)]
    · show (p.S.ρ.set i (some val)).length = _
      rw [List.length_set]
    · have hj : j = i := List.mem_singleton.mp hj
      rw [hj] at e
      have e : (p.S.ρ.set i (some val))[i]? = some (some u) := e
      rw [List.getElem?_set_self hi] at e
      cases e
      exact o
  · exact q.elim
section
variable {X : Cx} {Γ : Env} {xcl : Str → Option Addr} {fx : Fx} {W : WX} {N : List Str} {sc : Scope} {st : Str → Bool} {k : Nat} {pos : Pos} {m : Bool}
/-! ### blocks -/
theorem b_nil : PSs X [] (tSs (cfg X Γ xcl fx) W .nil) := pss_nil.weak fun D σ H ⟨p, s, q⟩ => q σ H p rfl s (Same.refl _)
theorem b_cons {s : S} {r : Ss} {x : Stmt} {xs : List Stmt} (h1 : PS X x (tS (cfg X Γ xcl fx) W s)) (h2 : PSs X xs (tSs (cfg X Γ xcl fx) W r)) : PSs X (x :: xs) (tSs (cfg X Γ xcl fx) W (.cons s r)) := by
  refine (pss_cons h1 h2).weak fun D σ H ⟨p, s0, q⟩ => ?_
  have q : OutP ((exec Γ s >>= fun f => match f with | .nx => execs Γ r | f => pure f) p.S) _ _ := q
  refine ⟨p, s0, outP_mono (outP_bind q) (fun f S' z => ?_) fun _ _ z => z⟩
  cases f with
  | nx => exact fun σ' H' p' e s' sm => ⟨p', s', by subst e; exact outP_mono z (fun f S z => z.mono sm) fun _ _ z => z.mono sm⟩
  | bk => exact z
  | ct => exact z
  | rt v => exact z
theorem s_never {x : Stmt} : PS X x (tS (cfg X Γ xcl fx) W .never) := (ps_never).weak fun D σ H ⟨p, s, q⟩ => q
theorem s_sub {o k e : E} {x : Stmt} : PS X x (tS (cfg X Γ xcl fx) W (.sub o k e)) := (ps_never).weak fun D σ H ⟨p, s, q⟩ => q
theorem s_pass : PS X (.Pass pos) (tS (cfg X Γ xcl fx) W .pass) := ps_pass.weak fun D σ H ⟨p, s, q⟩ => q σ H p rfl s (Same.refl _)
theorem s_brk : PS X (.Break pos) (tS (cfg X Γ xcl fx) W .brk) := ps_break.weak fun D σ H ⟨p, s, q⟩ => q σ H p rfl s (Same.refl _)
theorem s_cnt : PS X (.Continue pos) (tS (cfg X Γ xcl fx) W .cnt) := ps_continue.weak fun D σ H ⟨p, s, q⟩ => q σ H p rfl s (Same.refl _)
/-! ### stores in names -/
theorem asg_noer : ∀ {tg : Tg} {v : Val} {S : Sta} {kk : Unit → Sta → Prop} {ke : Err → Sta → Prop}, OutP (asgT tg v S) kk ke → OutP (asgT tg v S) kk (fun _ _ => False)
  | .nm i x, v, S, kk, ke, q => by
    have q : OutP (setSlot i v S) kk ke := q
    show OutP (setSlot i v S) kk _
    unfold setSlot at q ⊢
    split at q
    · rename_i h; rw [if_pos h]; exact q
    · exact q.elim
  | .tp1 a, v, S, kk, ke, q => by
    obtain ⟨x, rfl, q⟩ := asg1 q
    exact asg_noer (tg := a) q
  | .tp2 a b, v, S, kk, ke, q => by
    obtain ⟨x, y, rfl, q⟩ := asg2 q
    have h := asg_noer (tg := a) (outP_mono (outP_bind q) (fun _ S' z => asg_noer (tg := b) z) fun _ _ z => z)
    show OutP ((asgT a (.d x) >>= fun _ => asgT b (.d y)) S) kk _
    show OutP (M.bind _ _ S) kk _
    unfold M.bind
    cases e : asgT a (.d x) S with
    | ok u S' => rw [e] at h; exact h
    | er u S' => rw [e] at h; exact h
    | no => rw [e] at h; exact h
  | .tp3 a b c, v, S, kk, ke, q => by
    obtain ⟨x, y, z, rfl, q⟩ := asg3 q
    have h := asg_noer (tg := a) (outP_mono (outP_bind q) (fun _ S' w => asg_noer (tg := b) (outP_mono (outP_bind w) (fun _ S' w => asg_noer (tg := c) w) fun _ _ z => z)) fun _ _ z => z)
    show OutP (M.bind _ _ S) kk _
    unfold M.bind
    cases e : asgT a (.d x) S with
    | ok u S' =>
      rw [e] at h
      show OutP (M.bind _ _ S') kk _
      unfold M.bind
      have h : OutP (asgT b (.d y) S') (fun a s' => OutP (asgT c (.d z) s') kk fun x s => False) fun x s => False := h
      cases e : asgT b (.d y) S' with
      | ok u S' => rw [e] at h; exact h
      | er u S' => rw [e] at h; exact h
      | no => rw [e] at h; exact h
    | er u S' => rw [e] at h; exact h
    | no => rw [e] at h; exact h
  | .tp4 a b c d, v, S, kk, ke, q => by
    obtain ⟨x, y, z, u, rfl, q⟩ := asg4 q
    have h := asg_noer (tg := a) (outP_mono (outP_bind q) (fun _ S' w => asg_noer (tg := b) (outP_mono (outP_bind w) (fun _ S' w => asg_noer (tg := c) (outP_mono (outP_bind w) (fun _ S' w => asg_noer (tg := d) w) fun _ _ z => z)) fun _ _ z => z)) fun _ _ z => z)
    show OutP (M.bind _ _ S) kk _
    unfold M.bind
    cases e : asgT a (.d x) S with
    | ok u' S' =>
      rw [e] at h
      show OutP (M.bind _ _ S') kk _
      unfold M.bind
      have h : OutP (asgT b (.d y) S') (fun a s' => OutP (asgT c (.d z) s') (fun a s' => OutP (asgT d (.d u) s') kk fun x s => False) fun x s => False) fun x s => False := h
      cases e : asgT b (.d y) S' with
      | ok u' S' =>
        rw [e] at h
        show OutP (M.bind _ _ S') kk _
        unfold M.bind
        have h : OutP (asgT c (.d z) S') (fun a s' => OutP (asgT d (.d u) s') kk fun x s => False) fun x s => False := h
        cases e : asgT c (.d z) S' with
        | ok u S' => rw [e] at h; exact h
        | er u S' => rw [e] at h; exact h
        | no => rw [e] at h; exact h
      | er u S' => rw [e] at h; exact h
      | no => rw [e] at h; exact h
    | er u S' => rw [e] at h; exact h
    | no => rw [e] at h; exact h
theorem asg_read {tg : Tg} {e : E} {D : Ends} {σ : L2.St} {H : Hp} (h : tS (cfg X Γ xcl fx) W (.asg tg e) D σ H) : tAsg (tE (cfg X Γ xcl fx) W e true) (gT (cfg X Γ xcl fx) tg) D σ H := by
  obtain ⟨p, s, q⟩ := h
  have q : OutP ((ev Γ e true >>= fun v => asgT tg v >>= fun _ => pure Flw.nx) p.S) _ _ := q
  refine tE.intro s (outP_bind q) (fun val v H1 p1 q1 s1 st1 rv fr => ?_) fun _ _ z => z.ew
  refine ⟨p1, val, s1, rv, NewV.fresh s st1 (fr rfl), outP_mono (asg_noer (outP_bind q1)) (fun _ S' z σ' p' e as => ?_) fun _ _ z => z⟩
  subst e
  exact outP_pure z σ' H1 p' rfl as.sim (by rw [as.hf]; exact st1.hf)
/-- the value is no comprehension -/
def noComp : Expr → Bool
  | .ListComp .. | .SetComp .. | .DictComp .. => false
  | _ => true
def noTup : Expr → Bool
  | .Tuple .. => false
  | _ => true
theorem sw_noComp {v : Expr} {t : Option Expr} {l : Nat} {env : PySem.Env} (h : noComp v = true) : swapsWith v t l env = pure false := by
  cases v <;> first | rfl | cases h
theorem sw_tup {v : Expr} {es : List Expr} {kk : Nat} {l : Nat} {env : PySem.Env} {pos : Pos} : swapsWithSole [.Tuple es kk pos] v l env = pure false := by
  cases v <;> rfl
theorem st_noTup {v : Expr} {t : Expr} {env : PySem.Env} (h : noTup v = true) : swappedStores [t] v env = pure none := by
  cases v <;> cases t <;> first | rfl | cases h
theorem s_asgN {i : Nat} {x : Str} {e : E} {v : Expr} {pos' : Pos} (ok : XOk Γ xcl W N sc st k X) (hl : locB N sc st i x = true) (hv : noComp v = true) (h : PE X v (tE (cfg X Γ xcl fx) W e true)) :
    PS X (.Assign [.Name x pos'] v pos) (tS (cfg X Γ xcl fx) W (.asg (.nm i x) e)) := by
  obtain ⟨h1, h2, h3⟩ := loc_of ok hl
  refine (ps_set (by rw [ok.hN]; exact ok.nd) h1 h2 h (sw_noComp hv) h3).weak fun D σ H q => ?_
  exact tE_mono (asg_read q) fun v H' z => gT_nm z
/-- a comprehension stored in a name -/
theorem s_asgC {i : Nat} {x : Str} {e : E} {v : Expr} {pos' : Pos} (ok : XOk Γ xcl W N sc st k X) (hl : locB N sc st i x = true) (hk : X.env.blockKind = .function) (h : PEA X v (tE (cfg X Γ xcl fx) W e true)) :
    PS X (.Assign [.Name x pos'] v pos) (tS (cfg X Γ xcl fx) W (.asg (.nm i x) e)) := by
  obtain ⟨h1, h2, h3⟩ := loc_of ok hl
  have hN : X.N.Nodup := by rw [ok.hN]; exact ok.nd
  have key : swapsWith v (some (.Name x pos')) pos.line X.env = pure false ∨ (swapsWith v (some (.Name x pos')) pos.line X.env = pure true ∧ X.env.scope.names.lookup x = some .local) := by
    have go : ∀ (scope : Scope) (b : Bool), swapsWith v (some (.Name x pos')) pos.line X.env = pure (X.env.blockKind == ScopeKind.function && X.env.kindOf x == some .local && b && !(scope.names.any fun (n, k) => n == x && (k == .local || k == .cell))) →
        swapsWith v (some (.Name x pos')) pos.line X.env = pure false ∨ (swapsWith v (some (.Name x pos')) pos.line X.env = pure true ∧ X.env.scope.names.lookup x = some .local) := fun scope b h => by
      cases hb : (X.env.blockKind == ScopeKind.function && X.env.kindOf x == some .local && b && !(scope.names.any fun (n, k) => n == x && (k == .local || k == .cell))) with
      | false => rw [hb] at h; exact .inl h
      | true =>
        rw [hb] at h
        simp only [Bool.and_eq_true, beq_iff_eq] at hb
        exact .inr ⟨h, hb.1.1.2⟩
    cases v with
    | ListComp a g s p => exact go s _ rfl
    | SetComp a g s p => exact go s _ rfl
    | DictComp a a' g s p => exact go s _ rfl
    | _ => exact .inl rfl
  rcases key with hs | ⟨hs, hloc⟩
  · exact (ps_set hN h1 h2 h.pe hs h3).weak fun D σ H q => tE_mono (asg_read q) fun v H' z => gT_nm z
  · exact (h.asg i x pos' pos hN h1 hloc hs).weak fun D σ H q => tE_mono (asg_read q) fun v H' z => gT_nm z
theorem s_asgT {tg : Tg} {e : E} {es : List Expr} {kk : Nat} {v : Expr} {pos' : Pos} (hv : noTup v = true) (ht : PG X (.Tuple es kk pos') (gT (cfg X Γ xcl fx) tg)) (h : PE X v (tE (cfg X Γ xcl fx) W e true)) :
    PS X (.Assign [.Tuple es kk pos'] v pos) (tS (cfg X Γ xcl fx) W (.asg tg e)) :=
  (ps_asg h ht sw_tup (st_noTup hv) rfl).weak fun D σ H q => asg_read q
/-! ### if, while, for -/
theorem s_if {t : Tst} {a b : Ss} {c : Expr} {xs ys : List Stmt} (hc : PT X c (tT (cfg X Γ xcl fx) W t)) (ha : PSs X xs (tSs (cfg X Γ xcl fx) W a)) (hb : PSs X ys (tSs (cfg X Γ xcl fx) W b)) : PS X (.If c xs ys pos) (tS (cfg X Γ xcl fx) W (.ite t a b)) := by
  refine (ps_if hc ha hb).weak fun D σ H ⟨p, s, q⟩ => ?_
  have q : OutP ((evt Γ t >>= fun x => if x = true then execs Γ a else execs Γ b) p.S) _ _ := q
  refine tT.intro s (outP_bind q) (fun x H1 p1 q1 s1 st1 => ?_) fun _ _ z => z.ew
  cases x with
  | true => exact iteT ⟨p1, s1, outP_mono q1 (fun _ _ z => z.mono st1.hf) fun _ _ z => z.mono st1.hf⟩
  | false => exact iteF ⟨p1, s1, outP_mono q1 (fun _ _ z => z.mono st1.hf) fun _ _ z => z.mono st1.hf⟩
theorem s_while {t : Tst} {b : Ss} {c : Expr} {xs : List Stmt} (ok : XOk Γ xcl W N sc st k X) (hc : PT X c (tT (cfg X Γ xcl fx) W t)) (hb : PSs X xs (tSs (cfg X Γ xcl fx) W b)) : PS X (.While c xs [] pos) (tS (cfg X Γ xcl fx) W (.whl t b)) := by
  refine (ps_while ok.po hc hb).weak fun D σ H ⟨p, s, q⟩ => ?_
  have q : OutP (whGo (evt Γ t) (execs Γ b) turns p.S) _ _ := q
  refine ⟨fun m σ H => ∃ p', (cfg X Γ xcl fx).sim p' H σ ∧ Same p.Hf p'.Hf ∧ OutP (whGo (evt Γ t) (execs Γ b) m p'.S) (endK (cfg X Γ xcl fx) D p.Hf) (EWS (cfg X Γ xcl fx) W p.Hf), ⟨turns, p, s, Same.refl _, q⟩, ?_⟩
  rintro m σ' H' ⟨p', s', sm, q⟩
  cases m with
  | zero => exact q.elim
  | succ n =>
    have q : OutP ((evt Γ t >>= fun x => if x = true then (execs Γ b >>= fun f => match f with | .nx => whGo (evt Γ t) (execs Γ b) n | .ct => whGo (evt Γ t) (execs Γ b) n | .bk => pure Flw.nx | .rt v => pure (Flw.rt v)) else pure Flw.nx) p'.S) _ _ := q
    refine tT.intro s' (outP_bind q) (fun x H1 p1 q1 s1 st1 => ?_) fun _ _ z => (z.mono sm).ew
    have sm1 := sm.trans st1.hf
    cases x with
    | false => exact iteF (outP_pure q1 σ' H1 p1 rfl s1 sm1)
    | true =>
      refine iteT ⟨_, fun σ' H' h => ⟨n, Nat.lt_succ_self n, h⟩, p1, s1, outP_mono (outP_bind q1) (fun f S' z => ?_) fun _ _ z => z.mono sm1⟩
      cases f with
      | nx => exact fun σ2 H2 p2 e s2 sm2 => ⟨p2, s2, sm1.trans sm2, by subst e; exact z⟩
      | ct => exact fun σ2 H2 p2 e s2 sm2 => ⟨p2, s2, sm1.trans sm2, by subst e; exact z⟩
      | bk => exact fun σ2 H2 p2 e s2 sm2 => outP_pure z σ2 H2 p2 e s2 (sm1.trans sm2)
      | rt v => exact fun u σ2 H2 p2 e s2 sm2 => outP_pure z u σ2 H2 p2 e s2 (sm1.trans sm2)
theorem s_for {tg : Tg} {it : Itr} {b : Ss} {t i : Expr} {xs : List Stmt} (ok : XOk Γ xcl W N sc st k X) (hi : PI X t i (tI (cfg X Γ xcl fx) W it)) (hg : PG X t (gT (cfg X Γ xcl fx) tg)) (hb : PSs X xs (tSs (cfg X Γ xcl fx) W b)) (hs : ∀ x, foldedSetIterable i X.env x = pure x) :
    PS X (.For t i xs [] pos) (tS (cfg X Γ xcl fx) W (.for_ tg it b)) := by
  refine (ps_for ok.po ok.calm hi hg hb hs).weak fun D σ H ⟨p, s, q⟩ => ?_
  have q : OutP ((evi Γ it >>= fun ys => forGo (fun x => asgT tg (.d x) >>= fun _ => execs Γ b) ys) p.S) _ _ := q
  refine ⟨p, s, outP_mono (outP_bind q) (fun ys S' q1 J H1 p1 e s1 st1 itr => ?_) fun _ _ z => z.ew⟩
  subst e
  obtain ⟨Y, wk, hy⟩ := itr.ex
  refine for_it wk (fun i σ H => ∃ p', (cfg X Γ xcl fx).sim p' H σ ∧ Same p1.Hf p'.Hf ∧ OutP (forGo (fun x => asgT tg (.d x) >>= fun _ => execs Γ b) (ys.drop i) p'.S) (endK (cfg X Γ xcl fx) D p.Hf) (EWS (cfg X Γ xcl fx) W p.Hf)) ?_ ?_ ?_ ?_
  · exact ⟨p1, s1, Same.refl _, q1⟩
  · rintro i σ' H' _ ⟨p', s', sm, _⟩
    exact sm.trans s'.sub
  · rintro i v σ' Hh H' hlt ⟨p', s', sm, q2⟩ yy
    obtain ⟨d, ed⟩ : ∃ d, ys[i]? = some d := ⟨_, List.getElem?_eq_getElem hlt⟩
    have hdrop : ys.drop i = d :: ys.drop (i + 1) := by
      rw [List.drop_eq_getElem_cons hlt]
      rw [List.getElem?_eq_getElem hlt] at ed
      rw [Option.some.inj ed]
    rw [hdrop] at q2
    obtain ⟨pa, ea, sa, fa, ra⟩ : ∃ pa : Pt, pa.S = p'.S ∧ (cfg X Γ xcl fx).sim pa H' σ' ∧ Same p'.Hf pa.Hf ∧ Rp X.w X.K pa.Hf v d := by
      rcases hy i d Hh v H' (sm.trans s'.sub) ed yy with ⟨rfl, r⟩ | ⟨T, ws, ds, rfl, hT, rfl, r, rfl⟩
      · exact ⟨p', rfl, s', Same.refl _, Rp.mono sm _ _ r⟩
      · obtain ⟨p2, e2, s2, st2, rv2⟩ := newTup (c := cfg X Γ xcl fx) s' (RpAll.mono sm _ _ r) hT
        exact ⟨p2, e2, s2, st2.hf, rv2⟩
    have q2 : OutP (((asgT tg (.d d) >>= fun _ => execs Γ b) >>= fun f => match f with | .nx => forGo (fun x => asgT tg (.d x) >>= fun _ => execs Γ b) (ys.drop (i + 1)) | .ct => forGo (fun x => asgT tg (.d x) >>= fun _ => execs Γ b) (ys.drop (i + 1)) | .bk => pure Flw.nx | .rt v => pure (Flw.rt v)) pa.S) (endK (cfg X Γ xcl fx) D p.Hf) (EWS (cfg X Γ xcl fx) W p.Hf) := by
      rw [ea]; exact q2
    have smp : Same p.Hf pa.Hf := st1.hf.trans (sm.trans fa)
    refine ⟨pa, .d d, sa, ra, NewV.data, outP_mono (asg_noer (outP_bind (outP_bind q2))) (fun _ S' q3 σ2 p2 e as => ?_) fun _ _ z => z⟩
    subst e
    have ehf : p2.Hf = pa.Hf := as.hf
    refine ⟨p2, as.sim, outP_mono q3 (fun f S' z => ?_) fun _ _ z => z.mono (by rw [ehf]; exact smp)⟩
    have back : ∀ {p3 : Pt}, Same p2.Hf p3.Hf → Same p1.Hf p3.Hf := fun {p3} sm3 => (sm.trans fa).trans (by rw [← ehf]; exact sm3)
    cases f with
    | nx => exact fun σ3 H3 p3 e s3 sm3 => ⟨p3, s3, back sm3, by subst e; exact z⟩
    | ct => exact fun σ3 H3 p3 e s3 sm3 => ⟨p3, s3, back sm3, by subst e; exact z⟩
    | bk => exact fun σ3 H3 p3 e s3 sm3 => outP_pure z σ3 H3 p3 e s3 (st1.hf.trans (back sm3))
    | rt u => exact fun u σ3 H3 p3 e s3 sm3 => outP_pure z u σ3 H3 p3 e s3 (st1.hf.trans (back sm3))
  · rintro σ' H' ⟨p', s', sm, q2⟩
    rw [List.drop_length] at q2
    exact outP_pure (show OutP ((pure Flw.nx : M Flw) p'.S) _ _ from q2) σ' H' p' rfl s' (st1.hf.trans sm)
/-! ### expressions, return -/
theorem s_ex {e : E} {v : Expr} (hv : noComp v = true) (h : PE X v (tE (cfg X Γ xcl fx) W e true)) : PS X (.Expr v pos) (tS (cfg X Γ xcl fx) W (.ex e)) := by
  refine (ps_expr h (sw_noComp hv)).weak fun D σ H ⟨p, s, q⟩ => ?_
  have q : OutP ((ev Γ e true >>= fun _ => pure Flw.nx) p.S) _ _ := q
  refine tE.intro s (outP_bind q) (fun val v H1 p1 q1 s1 st1 rv fr => ?_) fun _ _ z => z.ew
  exact outP_pure q1 σ H1 p1 rfl s1 st1.hf
theorem s_ret {e : E} {v : Expr} (h : PE X v (tE (cfg X Γ xcl fx) W e true)) : PS X (.Return (some v) pos) (tS (cfg X Γ xcl fx) W (.ret e)) := by
  refine (ps_ret h).weak fun D σ H ⟨p, s, q⟩ => ?_
  have q : OutP ((ev Γ e true >>= fun v => pure (Flw.rt v)) p.S) _ _ := q
  refine tE.intro s (outP_bind q) (fun val v H1 p1 q1 s1 st1 rv fr => ?_) fun _ _ z => z.ew
  exact outP_pure q1 v σ H1 p1 rfl s1 st1.hf rv fun z => let ⟨a, e1, e2, e3⟩ := fr rfl z; ⟨a, e1, s.h0 e2, e3⟩
theorem s_ret0 : PS X (.Return none pos) (tS (cfg X Γ xcl fx) W .ret0) := ps_retN.weak fun D σ H ⟨p, s, q⟩ => q .non σ H p rfl s (Same.refl _) (Rp.non) fun z => nomatch z
theorem s_retV {i : Nat} {x : Str} {p' : Pos} (ok : XOk Γ xcl W N sc st k X) (h : varB N sc i x = true) : PS X (.Return (some (.Name x p')) pos) (tS (cfg X Γ xcl fx) W (.retV i x)) := by
  obtain ⟨h1, h2, h3, h4⟩ := var_of ok h
  refine (ps_ret (pe_var h1 h2 h3 h4)).weak fun D σ H ⟨p, s, q⟩ => ?_
  have q : OutP ((getSlot i >>= fun v => pure (Flw.rt v)) p.S) _ _ := q
  have q := outP_bind q
  unfold getSlot at q
  cases e : p.S.ρ[i]? with
  | none => rw [e] at q; exact q.elim
  | some o =>
    cases o with
    | none => rw [e] at q; exact q.elim
    | some v =>
      rw [e] at q
      obtain ⟨u, e1, e2⟩ := s.slot i v e
      refine ⟨u, e1, outP_pure q u σ H p rfl s (Same.refl _) e2 fun ho => ?_⟩
      have ha : ∃ a, u = .ref a := by
        cases v with
        | ol xs => obtain ⟨a, vs, e, _⟩ := e2; exact ⟨a, e⟩
        | od xs => obtain ⟨a, e, _⟩ := e2; exact ⟨a, e⟩
        | os xs => obtain ⟨a, e, _⟩ := e2; exact ⟨a, e⟩
        | d _ => cases ho
        | drw => cases ho
        | scr _ => cases ho
        | er _ _ => cases ho
      obtain ⟨a, rfl⟩ := ha
      obtain ⟨n1, n2⟩ := s.own a ⟨i, v, e, ho, e1⟩
      exact ⟨a, rfl, n2, n1⟩
end
end Mini

set_option Elab.async false
set_option linter.all false
set_option maxRecDepth 100000
set_option maxHeartbeats 4000000
namespace Mini
open PySem PySem.Spec PyProof.Rows L2
/-! ### changes in place -/
theorem slot_get {i : Nat} {S : Sta} {kk : Val → Sta → Prop} {ke : Err → Sta → Prop} (q : OutP (getSlot i S) kk ke) : ∃ v, S.ρ[i]? = some (some v) ∧ kk v S := by
  unfold getSlot at q
  cases e : S.ρ[i]? with
  | none => rw [e] at q; exact q.elim
  | some o =>
    cases o with
    | none => rw [e] at q; exact q.elim
    | some v => rw [e] at q; exact ⟨v, rfl, q⟩
theorem slot_set {i : Nat} {v : Val} {S : Sta} {kk : Unit → Sta → Prop} {ke : Err → Sta → Prop} (q : OutP (setSlot i v S) kk ke) : i < S.ρ.length ∧ kk () { S with ρ := S.ρ.set i (some v) } := by
  unfold setSlot at q
  split at q
  · rename_i h; exact ⟨h, q⟩
  · exact q.elim
theorem isOl_of {v : Val} (h : isOl v = true) : ∃ xs, v = .ol xs := by
  cases v <;> first | (exact ⟨_, rfl⟩) | cases h
theorem appV_of {v w : Val} {ys : List PyData} (h : appV v ys = some w) : ∃ xs, v = .ol xs ∧ xs.length + ys.length ≤ sizeLine ∧ w = .ol (xs ++ ys) := by
  cases v with
  | ol xs =>
    have h : (if fits (xs.length + ys.length) = true then some (Val.ol (xs ++ ys)) else none) = some w := h
    by_cases q : fits (xs.length + ys.length) = true
    · rw [if_pos q] at h; exact ⟨xs, rfl, fits_of q, (Option.some.inj h).symm⟩
    · rw [if_neg q] at h; cases h
  | _ => cases h
theorem lstOf_of {v : Val} {ys : List PyData} (h : lstOf v = some ys) : v.dat = some (.list ys) := by
  unfold lstOf at h
  split at h
  · rename_i e; cases h; exact e
  · cases h
section
variable {X : Cx} {Γ : Env} {xcl : Str → Option Addr} {fx : Fx} {W : WX} {N : List Str} {sc : Scope} {st : Str → Bool} {k : Nat} {pos : Pos} {m : Bool}
/-- the list in slot i grows -/
theorem grow_list {p : Pt} {H : Hp} {σ : L2.St} {i : Nat} {a : Addr} {v w : Val} {zs : List V} {ys : List PyData} (s : (cfg X Γ xcl fx).sim p H σ) (e : p.S.ρ[i]? = some (some v)) (hσ : σ[i]? = some (some (.ref a))) (ha : appV v ys = some w) (rp : RpAll X.w X.K p.Hf zs ys) :
    ∃ vs, H a = some (.lst vs) ∧ vs.length + zs.length ≤ sizeLine ∧ (cfg X Γ xcl fx).sim ⟨{ p.S with ρ := p.S.ρ.set i (some w) }, p.Hf, p.L⟩ (upd H a (.lst (vs ++ zs))) σ := by
  obtain ⟨xs, rfl, hz, rfl⟩ := appV_of ha
  obtain ⟨u, hu, rv⟩ := s.slot i _ e
  rw [hσ] at hu
  cases hu
  obtain ⟨b, vs, eb, h1, h2, h3⟩ := rv
  cases eb
  exact ⟨vs, h1, by rw [h2.length, rp.length]; exact hz, s.write e rfl hσ rfl ⟨a, vs ++ zs, rfl, upd_same, h2.append rp, h3⟩⟩
theorem s_app {i : Nat} {x : Str} {e : E} {v : Expr} {p1 apos cpos : Pos} (ok : XOk Γ xcl W N sc st k X) (hx : varB N sc i x = true) (hl : (apos.endLine == cpos.line) = true) (hs : notStar v = true) (h : PE X v (tE (cfg X Γ xcl fx) W e true)) :
    PS X (.Expr (.Call (.Attribute (.Name x p1) "append" apos) [v] [] cpos) pos) (tS (cfg X Γ xcl fx) W (.app i x e)) := by
  obtain ⟨h1, h2, h3, h4⟩ := var_of ok hx
  have st1 : starEach [v] X.env = [(false, eval v X.env)] := star_cons [] X.env hs
  refine (ps_expr (pe_bm PySem.F.plainAttrs_list PySem.F.slot_list_append PySem.F.type_list_append mt_append (pe_var h1 h2 h3 h4) (pa_cons h pa_nil st1) rfl (by rw [st1]; rfl) hl st1 rfl) rfl).weak fun D σ H ⟨p, s, q⟩ => ?_
  have q : OutP ((getSlot i >>= fun o => if isOl o = true then (ev Γ e true >>= fun v => M.of (Mini.getD v) >>= fun y => getSlot i >>= fun o => M.of (appV o [y]) >>= fun w => setSlot i w >>= fun _ => pure Flw.nx) else M.no) p.S) _ _ := q
  obtain ⟨o, eo, q⟩ := slot_get (outP_bind q)
  split at q
  · rename_i ho
    obtain ⟨xs, rfl⟩ := isOl_of ho
    obtain ⟨u, hu, rv⟩ := s.slot i _ eo
    obtain ⟨a, vs, rfl, ha, _⟩ := rv
    refine ⟨.ref a, hu, .inl ⟨rfl, _, .inl (.inl ha)⟩, ?_⟩
    refine tE.intro s (outP_bind q) (fun val v H1 p1 q1 s1 st1 rv fr => ?_) fun _ _ z => z.ew
    obtain ⟨y, ey, q1⟩ := outP_of (outP_bind q1)
    obtain ⟨p2, e2, s2, st2, rv2, _, _⟩ := Sim.frzNew s1 st1 s rv (getD_of ey) (fr rfl)
    rw [← e2] at q1
    obtain ⟨o, eo, q1⟩ := slot_get (outP_bind q1)
    obtain ⟨w, ew, q1⟩ := outP_of (outP_bind q1)
    obtain ⟨_, q1⟩ := slot_set (outP_bind q1)
    obtain ⟨vs, g1, g2, g3⟩ := grow_list s2 eo hu ew (.cons rv2 .nil)
    exact ⟨a, vs, v, rfl, rfl, g1, Nat.lt_of_succ_le (by simpa using g2), outP_pure q1 σ _ ⟨_, p2.Hf, p2.L⟩ rfl g3 st2.hf⟩
  · exact q.elim
theorem s_ext {i : Nat} {x : Str} {e : E} {v : Expr} {p1 apos cpos : Pos} (ok : XOk Γ xcl W N sc st k X) (hx : varB N sc i x = true) (hl : (apos.endLine == cpos.line) = true) (hs : notStar v = true) (h : PE X v (tE (cfg X Γ xcl fx) W e false)) :
    PS X (.Expr (.Call (.Attribute (.Name x p1) "extend" apos) [v] [] cpos) pos) (tS (cfg X Γ xcl fx) W (.ext i x e)) := by
  obtain ⟨h1, h2, h3, h4⟩ := var_of ok hx
  have st1 : starEach [v] X.env = [(false, eval v X.env)] := star_cons [] X.env hs
  refine (ps_expr (pe_bm PySem.F.plainAttrs_list PySem.F.slot_list_extend PySem.F.type_list_extend mt_extend (pe_var h1 h2 h3 h4) (pa_cons h pa_nil st1) rfl (by rw [st1]; rfl) hl st1 rfl) rfl).weak fun D σ H ⟨p, s, q⟩ => ?_
  have q : OutP ((getSlot i >>= fun o => if isOl o = true then (ev Γ e false >>= fun v => M.of (lstOf v) >>= fun y => getSlot i >>= fun o => M.of (appV o y) >>= fun w => setSlot i w >>= fun _ => pure Flw.nx) else M.no) p.S) _ _ := q
  obtain ⟨o, eo, q⟩ := slot_get (outP_bind q)
  split at q
  · rename_i ho
    obtain ⟨xs, rfl⟩ := isOl_of ho
    obtain ⟨u, hu, rv⟩ := s.slot i _ eo
    obtain ⟨a, vs, rfl, ha, _⟩ := rv
    refine ⟨.ref a, hu, .inl ⟨rfl, _, .inl (.inl ha)⟩, ?_⟩
    refine tE.intro s (outP_bind q) (fun val v H1 p1 q1 s1 st1 rv fr => ?_) fun _ _ z => z.ew
    obtain ⟨y, ey, q1⟩ := outP_of (outP_bind q1)
    obtain ⟨b, zs, rfl, hb, rp⟩ := rv.list s1.sub (lstOf_of ey)
    obtain ⟨o, eo, q1⟩ := slot_get (outP_bind q1)
    obtain ⟨w, ew, q1⟩ := outP_of (outP_bind q1)
    obtain ⟨_, q1⟩ := slot_set (outP_bind q1)
    obtain ⟨vs, g1, g2, g3⟩ := grow_list s1 eo hu ew rp
    exact ⟨a, b, vs, zs, rfl, rfl, g1, hb, g2, outP_pure q1 σ _ ⟨_, p1.Hf, p1.L⟩ rfl g3 st1.hf⟩
  · exact q.elim
def ipOp (op : BOp) : TIp := match op with
  | .add => ipI fun i j => i + j
  | .sub => ipI fun i j => i - j
  | _ => fun _ _ _ _ => False
theorem ip_op {op : BOp} : PIp X (bop op) (ipOp op) := by
  cases op with
  | add => exact ip_add
  | sub => exact ip_sub
  | mul => exact fun _ _ _ _ _ _ _ _ _ _ _ _ h => h.elim
  | mod => exact fun _ _ _ _ _ _ _ _ _ _ _ _ h => h.elim
  | fdiv => exact fun _ _ _ _ _ _ _ _ _ _ _ _ h => h.elim
  | pow => exact fun _ _ _ _ _ _ _ _ _ _ _ _ h => h.elim
theorem augV_of {op : BOp} {v w r : Val} (h : augV op v w = some r) : ∃ (i j : Int), v = .d (.int i) ∧ w = .d (.int j) ∧ ((op = .add ∧ r = Mini.int (i + j)) ∨ (op = .sub ∧ r = Mini.int (i - j))) := by
  unfold augV at h
  split at h
  · cases h; exact ⟨_, _, rfl, rfl, .inl ⟨rfl, rfl⟩⟩
  · cases h; exact ⟨_, _, rfl, rfl, .inr ⟨rfl, rfl⟩⟩
  · cases h
theorem s_aug {i : Nat} {x : Str} {op : BOp} {e : E} {v : Expr} {p1 : Pos} (ok : XOk Γ xcl W N sc st k X) (hx : locB N sc st i x = true) (h : PE X v (tE (cfg X Γ xcl fx) W e false)) :
    PS X (.AugAssign (.Name x p1) (bop op) v pos) (tS (cfg X Γ xcl fx) W (.aug i x op e)) := by
  obtain ⟨h1, h2, h3⟩ := loc_of ok hx
  refine (ps_aug (by rw [ok.hN]; exact ok.nd) h1 h2 h ip_op h3).weak fun D σ H ⟨p, s, q⟩ => ?_
  have q : OutP ((getSlot i >>= fun v => ev Γ e false >>= fun w => M.of (augV op v w) >>= fun r => setSlot i r >>= fun _ => pure Flw.nx) p.S) _ _ := q
  obtain ⟨o, eo, q⟩ := slot_get (outP_bind q)
  obtain ⟨u, hu, rv⟩ := s.slot i _ eo
  refine ⟨u, hu, tE.intro s (outP_bind q) (fun val v H1 p1 q1 s1 st1 rv1 _ => ?_) fun _ _ z => z.ew⟩
  obtain ⟨r, er, q1⟩ := outP_of (outP_bind q1)
  obtain ⟨hi, q1⟩ := slot_set (outP_bind q1)
  obtain ⟨a, b, rfl, rfl, hr⟩ := augV_of er
  cases rv
  cases rv1
  have fin : ∀ (j : Int), r = Mini.int j → D.nx (σ.set i (some (.int j))) H1 := fun j e => by
    subst e
    exact outP_pure q1 _ H1 ⟨_, p1.Hf, p1.L⟩ rfl (s1.set (v := .int j) (val := Mini.int j) (Rp.int j) hi fun z => nomatch z) st1.hf
  rcases hr with ⟨rfl, e⟩ | ⟨rfl, e⟩
  · exact ⟨a, b, rfl, rfl, fin _ e⟩
  · exact ⟨a, b, rfl, rfl, fin _ e⟩
/-! ### stores by a subscript -/
def rSubM (X : Cx) : TSet := fun o i v H Q => rSetL o i v H Q ∨ ∃ a kvs Hf k x, o = .ref a ∧ Ask X H Hf a kvs i k ∧ Rp X.w X.K Hf i k ∧ Rp X.w X.K Hf v x ∧ kvs.length ≤ sizeLine ∧ ∀ o', DicAt X.w X.K Hf (upd H a (exO a o')) a (dPut kvs k x) → Q (upd H a (exO a o'))
theorem set_any (hu : X.A.units + 64 < cLine) : PSet X (rSubM X) := by
  intro pins s σ H o i v ov iv u Q I ro ri rv h
  rcases h with h | ⟨a, kvs, Hf, k, x, rfl, ak, rk, rx, hz, q⟩
  · exact L2.set_list pins s σ H o i v ov iv u Q I ro ri rv h
  · cases (show ov = Value.ref a from ro)
    exact ask_set hu I ak rk ri rx rv hz fun o' s' I' da => ⟨_, I', q o' da⟩
theorem asg_sub {o i : Expr} {p2 : Pos} {env : PySem.Env} (h : notSlice i = true) (v : Value) : assign (.Subscript o i p2) env v = (do
      let ov ← holding [v] (eval o env)
      let iv ← holding [v, ov] (eval i env)
      standAt p2
      holding [v, ov, iv] (setItem ov iv v)
      release [v, ov, iv] []) := by
  cases i <;> first | rfl | cases h
theorem dat_key {val : Val} {x : PyData} (e : val.dat = some x) (h : keyOk x = true) : val = .d x := by
  cases val with
  | d y => cases e; rfl
  | ol _ => cases e; cases h
  | od _ => cases e; cases h
  | _ => cases e
theorem putIx_of {o w : Val} {kd x : PyData} (h : putIx o kd x = some w) : (∃ xs j i, o = .ol xs ∧ kd = .int i ∧ ixOf xs.length i = some j ∧ w = .ol (xs.set j x)) ∨ ∃ kvs, o = .od kvs ∧ keysWith (kvs.map (·.1)) kd = true ∧ kvs.length < sizeLine ∧ w = .od (dPut kvs kd x) := by
  unfold putIx at h
  split at h
  · obtain ⟨j, e, rfl⟩ := Option.map_eq_some_iff.mp h
    exact .inl ⟨_, j, _, rfl, rfl, e, rfl⟩
  · split at h
    · rename_i hk
      rw [Bool.and_eq_true, decide_eq_true_eq] at hk
      cases h
      exact .inr ⟨_, rfl, hk.1, hk.2, rfl⟩
    · cases h
  · cases h
theorem s_setIx {i : Nat} {x : Str} {ke e : E} {kx v : Expr} {p1 p2 : Pos} (ok : XOk Γ xcl W N sc st k X) (hx : varB N sc i x = true) (hsl : notSlice kx = true) (hk : PE X kx (tE (cfg X Γ xcl fx) W ke false)) (h : PE X v (tE (cfg X Γ xcl fx) W e true)) :
    PS X (.Assign [.Subscript (.Name x p1) kx p2] v pos) (tS (cfg X Γ xcl fx) W (.setIx i x ke e)) := by
  obtain ⟨h1, h2, h3, h4⟩ := var_of ok hx
  have hu : X.A.units + 64 < cLine := by have := ok.room.un; omega
  refine (ps_asg h (pg_sub (pe_var h1 h2 h3 h4) hk (set_any hu) (asg_sub hsl)) (by cases v <;> rfl) (by cases v <;> rfl) rfl).weak fun D σ H ⟨p, s, q⟩ => ?_
  have q : OutP ((ev Γ e true >>= fun v => M.of (Mini.getD v) >>= fun y => getSlot i >>= fun _ => ev Γ ke false >>= fun kv => datM kv >>= fun kd => getSlot i >>= fun o => M.of (putIx o kd y) >>= fun w => setSlot i w >>= fun _ => pure Flw.nx) p.S) _ _ := q
  refine tE.intro s (outP_bind q) (fun val v H1 p1 q1 s1 st1 rv fr => ?_) fun _ _ z => z.ew
  obtain ⟨y, ey, q1⟩ := outP_of (outP_bind q1)
  obtain ⟨p2, e2, s2, st2, rv2, _, _⟩ := Sim.frzNew s1 st1 s rv (getD_of ey) (fr rfl)
  rw [← e2] at q1
  obtain ⟨o0, eo0, q1⟩ := slot_get (outP_bind q1)
  obtain ⟨u, hu, _⟩ := s2.slot i _ eo0
  refine ⟨u, hu, tE.intro s2 (outP_bind q1) (fun kv kw H3 p3 q3 s3 st3 rvk _ => ?_) fun _ _ z => z.ew.step st2⟩
  obtain ⟨kd, ekd, q3⟩ := outP_of (show OutP (M.of kv.dat p3.S) _ _ from outP_bind q3)
  obtain ⟨o, eo, q3⟩ := slot_get (outP_bind q3)
  obtain ⟨w, ew, q3⟩ := outP_of (outP_bind q3)
  obtain ⟨hi, q3⟩ := slot_set (outP_bind q3)
  obtain ⟨u', hu', rvo⟩ := s3.slot i _ eo
  rw [hu] at hu'
  cases hu'
  have rvy : Rp X.w X.K p3.Hf v y := Rp.mono st3.hf _ _ rv2
  have sm : Same p.Hf p3.Hf := st2.hf.trans st3.hf
  rcases putIx_of ew with ⟨xs, j, ii, rfl, rfl, ej, rfl⟩ | ⟨kvs, rfl, hkw, hz, rfl⟩
  · obtain ⟨a, vs, rfl, ha, rp, nd⟩ := rvo
    have ek : kw = .int ii := rvk.int ekd
    subst ek
    refine .inl ⟨a, vs, ii, j, rfl, rfl, ha, by rw [rp.length, ← ixOf_eq]; exact ej, ?_⟩
    exact outP_pure q3 σ _ ⟨_, p3.Hf, p3.L⟩ rfl (s3.write eo rfl hu rfl ⟨a, vs.set j v, rfl, upd_same, RpAll.set rvy j rp, nd⟩) sm
  · obtain ⟨a, rfl, da, nd⟩ := rvo
    refine .inr ⟨a, kvs, p3.Hf, kd, y, rfl, ⟨s3.sub, da, rvk.rp s3.sub ekd, hkw⟩, ?_, rvy, Nat.le_of_lt hz, fun o' da' => ?_⟩
    · have hko : keyOk kd = true := by unfold keysWith at hkw; rw [Bool.and_eq_true] at hkw; exact hkw.1
      have := dat_key ekd hko
      subst this
      exact rvk
    · exact outP_pure q3 σ _ ⟨_, p3.Hf, p3.L⟩ rfl (s3.write eo rfl hu rfl ⟨a, rfl, da', nd⟩) sm
end
end Mini

set_option Elab.async false
set_option linter.all false
set_option maxRecDepth 100000
set_option maxHeartbeats 4000000
namespace Mini
open PySem PySem.Spec PyProof.Rows L2
/-! ### several stores at once -/
def isStarX : Expr → Bool
  | .Starred .. => true
  | _ => false
def swNames (sc : Scope) (line : Nat) (ts : List Expr) : List Str := ts.filterMap fun
  | .Name id pos => if sc.names.lookup id == some .local && pos.line == line then some id else none
  | _ => none
def swB (sc : Scope) (ts vs : List Expr) : Option (Option (List Str)) :=
  if !(ts.length == 2 || ts.length == 3) || vs.length != ts.length then some none
  else if vs.any isStarX then some none
  else if (swNames sc ((ts.head?.map (·.pos.line)).getD 0) ts).length != ts.length || (swNames sc ((ts.head?.map (·.pos.line)).getD 0) ts).eraseDups.length != (swNames sc ((ts.head?.map (·.pos.line)).getD 0) ts).length then some none
  else if vs.all (foldedForSure 8) then some none
  else if vs.all (constantsAlone 8) then none
  else some (some (swNames sc ((ts.head?.map (·.pos.line)).getD 0) ts))
theorem swB_ok {env : PySem.Env} {sc : Scope} {ts vs : List Expr} {a c : Nat} {b d : Pos} {o : Option (List Str)} (hk : env.blockKind = .function) (hs : env.scope = sc) (h : swB sc ts vs = some o) : swappedStores [.Tuple ts a b] (.Tuple vs c d) env = pure o := by
  have e1 : (env.blockKind != ScopeKind.function) = false := by rw [hk]; rfl
  have main : swappedStores [.Tuple ts a b] (.Tuple vs c d) env = (if (!(ts.length == 2 || ts.length == 3) || vs.length != ts.length || env.blockKind != .function) = true then pure none else if vs.any isStarX = true then pure none
      else if ((swNames env.scope ((ts.head?.map (·.pos.line)).getD 0) ts).length != ts.length || (swNames env.scope ((ts.head?.map (·.pos.line)).getD 0) ts).eraseDups.length != (swNames env.scope ((ts.head?.map (·.pos.line)).getD 0) ts).length) = true then pure none
      else if vs.all (foldedForSure 8) = true then pure none
      else if vs.all (constantsAlone 8) = true then (unsupported "assign.tuple-of-constant-expressions:order-of-the-stores" >>= fun (_ : Unit) => pure (some (swNames env.scope ((ts.head?.map (·.pos.line)).getD 0) ts)))
      else pure (some (swNames env.scope ((ts.head?.map (·.pos.line)).getD 0) ts))) := rfl
  rw [main, hs]
  unfold swB at h
  simp only [e1, Bool.or_false]
  split at h
  · rename_i q; cases h; rw [if_pos q]
  · rename_i q
    rw [if_neg q]
    split at h
    · rename_i q; cases h; rw [if_pos q]
    · rename_i q
      rw [if_neg q]
      split at h
      · rename_i q; cases h; rw [if_pos q]
      · rename_i q
        rw [if_neg q]
        split at h
        · rename_i q; cases h; rw [if_pos q]
        · rename_i q
          rw [if_neg q]
          split at h
          · cases h
          · rename_i q
            cases h
            rw [if_neg q]
/-- new values, apart from one another -/
def Apart (v : V) (x : Val) (v' : V) (x' : Val) : Prop := x.owned = true → x'.owned = true → v ≠ v'
inductive PNews (c : Cfg) (p : Pt) (σ : L2.St) : List V → List Val → Prop
  | nil : PNews c p σ [] []
  | cons {v : V} {x : Val} {vs : List V} {xs : List Val} : NewV c p σ v x → (∀ (j : Nat) (v' : V) (x' : Val), vs[j]? = some v' → xs[j]? = some x' → Apart v x v' x') → PNews c p σ vs xs → PNews c p σ (v :: vs) (x :: xs)
def AllFresh (H : Hp) (p' : Pt) (vs : List V) (xs : List Val) : Prop := ∀ (j : Nat) (v : V) (x : Val), vs[j]? = some v → xs[j]? = some x → Fresh H p' v x
def tPars (c : Cfg) (W : WX) (es : Es) : TA := fun σ H Q => ∃ p, c.sim p H σ ∧
  OutP (evp c.Γ es p.S) (fun vals S' => ∀ vs H' p', p'.S = S' → c.sim p' H' σ → Step p H p' H' σ → RVs c.w c.K p'.Hf H' p'.L vs vals → PNews c p' σ vs vals → AllFresh H p' vs vals → Q vs H') (EW c W σ p)
theorem RV.there {w : World} {K : PySem.W.Frag} {Hf H : Hp} {L : Loc3} {v : V} {x : Val} (h : RV w K Hf H L v x) (ho : x.owned = true) : ∃ a o, v = .ref a ∧ H a = some o := by
  cases x with
  | ol xs => obtain ⟨a, vs, e, h1, _⟩ := h; exact ⟨a, _, e, h1⟩
  | od xs => obtain ⟨a, e, ⟨_, _, _, _, _, h1, _⟩, _⟩ := h; exact ⟨a, _, e, h1⟩
  | os xs => obtain ⟨a, e, ⟨_, _, _, _, _, h1, _⟩, _⟩ := h; exact ⟨a, _, e, h1⟩
  | d _ => cases ho
  | drw => cases ho
  | scr _ => cases ho
  | er _ _ => cases ho
theorem Fresh.keep {c : Cfg} {H H1 H2 : Hp} {p p1 p2 : Pt} {σ : L2.St} {v : V} {x : Val} (s : c.sim p H σ) (st1 : Step p H p1 H1 σ) (st2 : Step p1 H1 p2 H2 σ) (rv : c.rv p1 H1 v x) (h : Fresh H p1 v x) : Fresh H p2 v x := fun ho => by
  obtain ⟨a, rfl, h1, h2⟩ := h ho
  obtain ⟨a', o, e, h3⟩ := rv.there ho
  cases e
  refine ⟨a, rfl, h1, ?_⟩
  cases z : p2.Hf a with
  | none => rfl
  | some o' =>
    rcases st2.nf a o' z with y | y | y
    · rw [h2] at y; cases y
    · rw [h3] at y; cases y
    · obtain ⟨⟨o2, e2⟩, _⟩ := s.slotSome (st1.so a y)
      rw [h1] at e2; cases e2
section
variable {X : Cx} {Γ : Env} {xcl : Str → Option Addr} {fx : Fx} {W : WX} {N : List Str} {sc : Scope} {st : Str → Bool} {k : Nat} {pos : Pos} {m : Bool}
theorem p_nil : PA X [] (tPars (cfg X Γ xcl fx) W .nil) := pa_nil.weak fun σ H Q ⟨p, s, q⟩ => q [] H p rfl s (Step.refl p H σ) .nil .nil (fun j v x e _ => by simp at e)
theorem p_cons {e : E} {r : Es} {x : Expr} {xs : List Expr} (hs : notStar x = true) (h1 : PE X x (tE (cfg X Γ xcl fx) W e true)) (h2 : PA X xs (tPars (cfg X Γ xcl fx) W r)) : PA X (x :: xs) (tPars (cfg X Γ xcl fx) W (.cons e r)) := by
  refine (pa_cons h1 h2 (star_cons xs X.env hs)).weak fun σ H Q ⟨p, s, q⟩ => ?_
  have q : OutP ((ev Γ e true >>= fun v => evp Γ r >>= fun vs => pure (v :: vs)) p.S) _ _ := q
  refine tE.intro s (outP_bind q) (fun val v H1 p1 q1 s1 st1 rv fr => ?_) fun _ _ z => z
  refine ⟨p1, s1, outP_mono (outP_bind q1) (fun vals S' z vs H2 p2 e2 s2 st2 rvs nw fs => ?_) fun _ _ z => z.step st1⟩
  have f1 : Fresh H p2 v val := Fresh.keep (c := cfg X Γ xcl fx) s st1 st2 rv (fr rfl)
  refine outP_pure z (v :: vs) H2 p2 e2 s2 (st1.trans st2) (.cons (rv.step st2) rvs) (.cons (NewV.fresh s (st1.trans st2) f1) (fun j v' x' ev ex ho ho' ee => ?_) nw) fun j v' x' ev ex => ?_
  · obtain ⟨a, o, rfl, ha⟩ := rv.there ho
    obtain ⟨a', rfl, ha', _⟩ := fs j v' x' ev ex ho'
    cases ee
    rw [ha] at ha'; cases ha'
  · cases j with
    | zero => simp at ev ex; subst ev ex; exact f1
    | succ j =>
      rw [List.getElem?_cons_succ] at ev ex
      intro ho
      obtain ⟨a, e1, e2, e3⟩ := fs j v' x' ev ex ho
      exact ⟨a, e1, st1.none_of e2, e3⟩
/-- one of them is stored -/
theorem set_one {c : Cfg} {p : Pt} {H : Hp} {σ : L2.St} {i : Nat} {v : V} {x : Val} {vs : List V} {xs : List Val} {kk : Unit → Sta → Prop} {ke : Err → Sta → Prop} (s : c.sim p H σ) (rvs : RVs c.w c.K p.Hf H p.L (v :: vs) (x :: xs)) (nw : PNews c p σ (v :: vs) (x :: xs)) (q : OutP (setSlot i x p.S) kk ke) :
    ∃ p', p'.Hf = p.Hf ∧ c.sim p' H (σ.set i (some v)) ∧ RVs c.w c.K p'.Hf H p'.L vs xs ∧ PNews c p' (σ.set i (some v)) vs xs ∧ kk () p'.S := by
  obtain ⟨hi, q⟩ := slot_set q
  cases rvs with
  | cons rv rvs =>
    cases nw with
    | cons nv ap nw =>
      have hiσ : i < σ.length := by rw [← s.len]; exact hi
      refine ⟨{ p with S := { p.S with ρ := p.S.ρ.set i (some x) } }, rfl, s.set rv hi (fun z => ?_), rvs, ?_, q⟩
      · obtain ⟨a, e, n1, n2, n3⟩ := nv z
        exact ⟨a, e, n1, n2, fun j u q1 q2 q3 => (n3 j u q1 q2 q3).elim⟩
      · have key : ∀ {v' : V} {x' : Val}, NewV c p σ v' x' → Apart v x v' x' → NewV c { p with S := { p.S with ρ := p.S.ρ.set i (some x) } } (σ.set i (some v)) v' x' := fun {v' x'} nv' ap' z => by
          obtain ⟨a, e, n1, n2, n3⟩ := nv' z
          refine ⟨a, e, n1, n2, fun j u q1 q2 q3 => ?_⟩
          have q1 : (p.S.ρ.set i (some x))[j]? = some (some u) := q1
          rcases getSet q1 with ⟨ej, eu, _⟩ | ⟨ej, q1'⟩
          · subst ej; subst eu
            rw [List.getElem?_set_self hiσ] at q3
            cases q3
            exact ap' q2 z e.symm
          · rw [List.getElem?_set_ne (Ne.symm ej)] at q3
            exact n3 j u q1' q2 q3
        clear rvs
        induction nw with
        | nil => exact .nil
        | @cons v' x' vs' xs' nv' ap'' nw' ih =>
          refine .cons (key nv' (ap 0 v' x' rfl rfl)) ap'' (ih fun j v'' x'' e1 e2 => ap (j + 1) v'' x'' (by rw [List.getElem?_cons_succ]; exact e1) (by rw [List.getElem?_cons_succ]; exact e2))
theorem PNews.lay {c : Cfg} {p : Pt} {σ : L2.St} {vs : List V} {xs : List Val} (h : PNews c p σ vs xs) : PNews c p σ vs xs := h
theorem RVs.lay {w : World} {K : PySem.W.Frag} {Hf H : Hp} {L : Loc3} {q : Addr} {o : HO} (hq : H q = none) : ∀ {vs : List V} {xs : List Val}, RVs w K Hf H L vs xs → RVs w K Hf (upd H q o) L vs xs
  | _, _, .nil => .nil
  | _, _, .cons h r => .cons (h.lay (Same.refl _) hq) (RVs.lay hq r)
theorem asgP2 {i j : Nat} {x y : Str} {vals : List Val} {S : Sta} {kk : Unit → Sta → Prop} {ke : Err → Sta → Prop} (q : OutP (asgP (.tp2 (.nm i x) (.nm j y)) vals S) kk ke) : ∃ a b, vals = [a, b] ∧ OutP ((setSlot i a >>= fun _ => setSlot j b) S) kk ke := by
  match vals, q with
  | [a, b], q => exact ⟨a, b, rfl, q⟩
  | [], q => exact q.elim
  | [_], q => exact q.elim
  | _ :: _ :: _ :: _, q => exact q.elim
theorem asgP3 {i j l : Nat} {x y z : Str} {vals : List Val} {S : Sta} {kk : Unit → Sta → Prop} {ke : Err → Sta → Prop} (q : OutP (asgP (.tp3 (.nm i x) (.nm j y) (.nm l z)) vals S) kk ke) : ∃ a b c, vals = [a, b, c] ∧ OutP ((setSlot i a >>= fun _ => setSlot j b >>= fun _ => setSlot l c) S) kk ke := by
  match vals, q with
  | [a, b, c], q => exact ⟨a, b, c, rfl, q⟩
  | [], q => exact q.elim
  | [_], q => exact q.elim
  | [_, _], q => exact q.elim
  | _ :: _ :: _ :: _ :: _, q => exact q.elim
theorem asgP4 {i j l n : Nat} {x y z u : Str} {vals : List Val} {S : Sta} {kk : Unit → Sta → Prop} {ke : Err → Sta → Prop} (q : OutP (asgP (.tp4 (.nm i x) (.nm j y) (.nm l z) (.nm n u)) vals S) kk ke) : ∃ a b c d, vals = [a, b, c, d] ∧ OutP ((setSlot i a >>= fun _ => setSlot j b >>= fun _ => setSlot l c >>= fun _ => setSlot n d) S) kk ke := by
  match vals, q with
  | [a, b, c, d], q => exact ⟨a, b, c, d, rfl, q⟩
  | [], q => exact q.elim
  | [_], q => exact q.elim
  | [_, _], q => exact q.elim
  | [_, _, _], q => exact q.elim
  | _ :: _ :: _ :: _ :: _ :: _, q => exact q.elim
/-- the state behind the stores, the heap perhaps with the tuple -/
theorem par_end2 {c : Cfg} {i j : Nat} {x y : Str} {p : Pt} {H : Hp} {σ : L2.St} {D : Ends} {vs : List V} {vals : List Val} {Hf0 : Hp} (s : c.sim p H σ) (rvs : RVs c.w c.K p.Hf H p.L vs vals) (nw : PNews c p σ vs vals) (sm : Same Hf0 p.Hf) {ke : Err → Sta → Prop}
    (q : OutP ((asgP (.tp2 (.nm i x) (.nm j y)) vals >>= fun _ => pure Flw.nx) p.S) (endK c D Hf0) ke) : ∃ v w, vs = [v, w] ∧ D.nx ((σ.set i (some v)).set j (some w)) H := by
  obtain ⟨a, b, rfl, q'⟩ := asgP2 (outP_bind q)
  obtain ⟨v, vr, rfl⟩ : ∃ v vr, vs = v :: vr := by cases rvs; exact ⟨_, _, rfl⟩
  obtain ⟨p1, f1, s1, r1, n1, q⟩ := set_one s rvs nw (outP_bind q')
  obtain ⟨w, vr, rfl⟩ : ∃ v vs', vr = v :: vs' := by cases r1; exact ⟨_, _, rfl⟩
  obtain ⟨p2, f2, s2, r2, n2, q⟩ := set_one s1 r1 n1 q
  cases r2
  exact ⟨v, w, rfl, outP_pure q _ H p2 rfl s2 (by rw [f2, f1]; exact sm)⟩
theorem par_end3 {c : Cfg} {i j l : Nat} {x y z : Str} {p : Pt} {H : Hp} {σ : L2.St} {D : Ends} {vs : List V} {vals : List Val} {Hf0 : Hp} (s : c.sim p H σ) (rvs : RVs c.w c.K p.Hf H p.L vs vals) (nw : PNews c p σ vs vals) (sm : Same Hf0 p.Hf) {ke : Err → Sta → Prop}
    (q : OutP ((asgP (.tp3 (.nm i x) (.nm j y) (.nm l z)) vals >>= fun _ => pure Flw.nx) p.S) (endK c D Hf0) ke) : ∃ v w u, vs = [v, w, u] ∧ D.nx (((σ.set i (some v)).set j (some w)).set l (some u)) H := by
  obtain ⟨a, b, c', rfl, q'⟩ := asgP3 (outP_bind q)
  obtain ⟨v, vr, rfl⟩ : ∃ v vr, vs = v :: vr := by cases rvs; exact ⟨_, _, rfl⟩
  obtain ⟨p1, f1, s1, r1, n1, q⟩ := set_one s rvs nw (outP_bind q')
  obtain ⟨w, vr, rfl⟩ : ∃ v vs', vr = v :: vs' := by cases r1; exact ⟨_, _, rfl⟩
  obtain ⟨p2, f2, s2, r2, n2, q⟩ := set_one s1 r1 n1 (outP_bind q)
  obtain ⟨u, vr, rfl⟩ : ∃ v vs', vr = v :: vs' := by cases r2; exact ⟨_, _, rfl⟩
  obtain ⟨p3, f3, s3, r3, n3, q⟩ := set_one s2 r2 n2 q
  cases r3
  exact ⟨v, w, u, rfl, outP_pure q _ H p3 rfl s3 (by rw [f3, f2, f1]; exact sm)⟩
theorem par_end4 {c : Cfg} {i j l n : Nat} {x y z t : Str} {p : Pt} {H : Hp} {σ : L2.St} {D : Ends} {vs : List V} {vals : List Val} {Hf0 : Hp} (s : c.sim p H σ) (rvs : RVs c.w c.K p.Hf H p.L vs vals) (nw : PNews c p σ vs vals) (sm : Same Hf0 p.Hf) {ke : Err → Sta → Prop}
    (q : OutP ((asgP (.tp4 (.nm i x) (.nm j y) (.nm l z) (.nm n t)) vals >>= fun _ => pure Flw.nx) p.S) (endK c D Hf0) ke) : ∃ v w u r, vs = [v, w, u, r] ∧ D.nx ((((σ.set i (some v)).set j (some w)).set l (some u)).set n (some r)) H := by
  obtain ⟨a, b, c', d', rfl, q'⟩ := asgP4 (outP_bind q)
  obtain ⟨v, vr, rfl⟩ : ∃ v vr, vs = v :: vr := by cases rvs; exact ⟨_, _, rfl⟩
  obtain ⟨p1, f1, s1, r1, n1, q⟩ := set_one s rvs nw (outP_bind q')
  obtain ⟨w, vr, rfl⟩ : ∃ v vs', vr = v :: vs' := by cases r1; exact ⟨_, _, rfl⟩
  obtain ⟨p2, f2, s2, r2, n2, q⟩ := set_one s1 r1 n1 (outP_bind q)
  obtain ⟨u, vr, rfl⟩ : ∃ v vs', vr = v :: vs' := by cases r2; exact ⟨_, _, rfl⟩
  obtain ⟨p3, f3, s3, r3, n3, q⟩ := set_one s2 r2 n2 (outP_bind q)
  obtain ⟨r, vr, rfl⟩ : ∃ v vs', vr = v :: vs' := by cases r3; exact ⟨_, _, rfl⟩
  obtain ⟨p4, f4, s4, r4, n4, q⟩ := set_one s3 r3 n3 q
  cases r4
  exact ⟨v, w, u, r, rfl, outP_pure q _ H p4 rfl s4 (by rw [f4, f3, f2, f1]; exact sm)⟩
theorem par_args {tg : Tg} {es : Es} {D : Ends} {σ : L2.St} {H : Hp} {Q : List V → Hp → Prop} (h : tS (cfg X Γ xcl fx) W (.par tg es) D σ H)
    (hQ : ∀ vs vals H1 (p p1 : Pt), (cfg X Γ xcl fx).sim p1 H1 σ → RVs X.w X.K p1.Hf H1 p1.L vs vals → PNews (cfg X Γ xcl fx) p1 σ vs vals → Same p.Hf p1.Hf → OutP ((asgP tg vals >>= fun _ => pure Flw.nx) p1.S) (endK (cfg X Γ xcl fx) D p.Hf) (EWS (cfg X Γ xcl fx) W p.Hf) → Q vs H1) : tPars (cfg X Γ xcl fx) W es σ H Q := by
  obtain ⟨p, s, q⟩ := h
  have q : OutP ((evp Γ es >>= fun vs => asgP tg vs >>= fun _ => pure Flw.nx) p.S) _ _ := q
  refine ⟨p, s, outP_mono (outP_bind q) (fun vals S' q1 vs H1 p1 e s1 st1 rvs nw _ => ?_) fun _ _ z => z.ew⟩
  subst e
  exact hQ vs vals H1 p p1 s1 rvs nw st1.hf q1
theorem lcl {sc : Scope} {x : Str} (h : (sc.names.lookup x == some .local) = true) (e : X.env.scope = sc) : X.env.scope.names.lookup x = some .local := by rw [e]; exact eq_of_beq h
/-- by way of the two or three names alone -/
theorem s_par2 {i j : Nat} {x y : Str} {es : Es} {a b : Expr} {px py pt p2 : Pos} {kt k2 : Nat} (ok : XOk Γ xcl W N sc st k X) (hk : X.env.blockKind = .function) (hi : locB N sc st i x = true) (hj : locB N sc st j y = true) (hij : decide (i ≠ j) = true)
    (hx : (sc.names.lookup x == some .local) = true) (hy : (sc.names.lookup y == some .local) = true) (hsw : swB sc [.Name x px, .Name y py] [a, b] = some (some [x, y])) (ha : PA X [a, b] (tPars (cfg X Γ xcl fx) W es)) :
    PS X (.Assign [.Tuple [.Name x px, .Name y py] kt pt] (.Tuple [a, b] k2 p2) pos) (tS (cfg X Γ xcl fx) W (.par (.tp2 (.nm i x) (.nm j y)) es)) := by
  refine (ps_par ok.calm (by rw [ok.hN]; exact ok.nd) (loc_of ok hi).1 (loc_of ok hj).1 (of_decide_eq_true hij) (lcl hx ok.sc) (lcl hy ok.sc) ha (swB_ok hk ok.sc hsw) rfl).weak fun D σ H h => ?_
  exact par_args h fun vs vals H1 p p1 s1 rvs nw sm q => par_end2 s1 rvs nw sm q
theorem s_par3 {i j l : Nat} {x y z : Str} {es : Es} {a b c : Expr} {px py pz pt p2 : Pos} {kt k2 : Nat} (ok : XOk Γ xcl W N sc st k X) (hk : X.env.blockKind = .function) (hi : locB N sc st i x = true) (hj : locB N sc st j y = true) (hl : locB N sc st l z = true) (hij : decide (i ≠ j) = true) (hil : decide (i ≠ l) = true) (hjl : decide (j ≠ l) = true)
    (hx : (sc.names.lookup x == some .local) = true) (hy : (sc.names.lookup y == some .local) = true) (hz : (sc.names.lookup z == some .local) = true) (hsw : swB sc [.Name x px, .Name y py, .Name z pz] [a, b, c] = some (some [x, y, z])) (ha : PA X [a, b, c] (tPars (cfg X Γ xcl fx) W es)) :
    PS X (.Assign [.Tuple [.Name x px, .Name y py, .Name z pz] kt pt] (.Tuple [a, b, c] k2 p2) pos) (tS (cfg X Γ xcl fx) W (.par (.tp3 (.nm i x) (.nm j y) (.nm l z)) es)) := by
  refine (ps_par3 ok.calm (by rw [ok.hN]; exact ok.nd) (loc_of ok hi).1 (loc_of ok hj).1 (loc_of ok hl).1 (of_decide_eq_true hij) (of_decide_eq_true hil) (of_decide_eq_true hjl) (lcl hx ok.sc) (lcl hy ok.sc) (lcl hz ok.sc) ha (swB_ok hk ok.sc hsw) rfl).weak fun D σ H h => ?_
  exact par_args h fun vs vals H1 p p1 s1 rvs nw sm q => par_end3 s1 rvs nw sm q
/-- by way of the tuple -/
theorem par_tup {tg : Tg} {es : Es} {D : Ends} {σ : L2.St} {H : Hp} {n : Nat} {g : TGs} (h : tS (cfg X Γ xcl fx) W (.par tg es) D σ H) (hn : n ≤ 8)
    (hQ : ∀ vs vals H1 (p p1 : Pt), (cfg X Γ xcl fx).sim p1 H1 σ → RVs X.w X.K p1.Hf H1 p1.L vs vals → PNews (cfg X Γ xcl fx) p1 σ vs vals → Same p.Hf p1.Hf → OutP ((asgP tg vals >>= fun _ => pure Flw.nx) p1.S) (endK (cfg X Γ xcl fx) D p.Hf) (EWS (cfg X Γ xcl fx) W p.Hf) → vs.length = n ∧ g vs σ H1 D.nx) :
    tAsg (tTup (tPars (cfg X Γ xcl fx) W es)) (gTup X.K n g) D σ H := by
  refine par_args h fun vs vals H1 p p1 s1 rvs nw sm q => ⟨?_, fun T hT => ?_⟩
  · obtain ⟨e, _⟩ := hQ vs vals H1 p p1 s1 rvs nw sm q
    rw [e, sizeLine_eq]; omega
  · obtain ⟨s2, _⟩ := s1.layO (o := .tup vs) hT
    obtain ⟨e, g⟩ := hQ vs vals _ p p1 s2 (rvs.lay hT) nw sm q
    exact ⟨T, vs, rfl, SqT.of upd_same, e, g⟩
theorem s_parT2 {i j : Nat} {x y : Str} {es : Es} {a b : Expr} {px py pt p2 : Pos} {kt k2 : Nat} (ok : XOk Γ xcl W N sc st k X) (hk : X.env.blockKind = .function) (hi : locB N sc st i x = true) (hj : locB N sc st j y = true)
    (hsw : swB sc [.Name x px, .Name y py] [a, b] = some none) (ha : PA X [a, b] (tPars (cfg X Γ xcl fx) W es)) :
    PS X (.Assign [.Tuple [.Name x px, .Name y py] kt pt] (.Tuple [a, b] k2 p2) pos) (tS (cfg X Γ xcl fx) W (.par (.tp2 (.nm i x) (.nm j y)) es)) := by
  have nd : X.N.Nodup := by rw [ok.hN]; exact ok.nd
  obtain ⟨a1, a2, a3⟩ := loc_of ok hi
  obtain ⟨b1, b2, b3⟩ := loc_of ok hj
  refine (ps_asg (pe_tup ha) (pg_tup (n := 2) ok.calm (pgs_cons (pg_name nd a1 a2 a3) (pgs_cons (pg_name nd b1 b2 b3) pgs_nil))) rfl (swB_ok hk ok.sc hsw) rfl).weak fun D σ H h => ?_
  refine par_tup h (by decide) fun vs vals H1 p p1 s1 rvs nw sm q => ?_
  obtain ⟨v, w, rfl, q⟩ := par_end2 s1 rvs nw sm q
  exact ⟨rfl, v, [w], rfl, w, [], rfl, rfl, q⟩
theorem s_parT3 {i j l : Nat} {x y z : Str} {es : Es} {a b c : Expr} {px py pz pt p2 : Pos} {kt k2 : Nat} (ok : XOk Γ xcl W N sc st k X) (hk : X.env.blockKind = .function) (hi : locB N sc st i x = true) (hj : locB N sc st j y = true) (hl : locB N sc st l z = true)
    (hsw : swB sc [.Name x px, .Name y py, .Name z pz] [a, b, c] = some none) (ha : PA X [a, b, c] (tPars (cfg X Γ xcl fx) W es)) :
    PS X (.Assign [.Tuple [.Name x px, .Name y py, .Name z pz] kt pt] (.Tuple [a, b, c] k2 p2) pos) (tS (cfg X Γ xcl fx) W (.par (.tp3 (.nm i x) (.nm j y) (.nm l z)) es)) := by
  have nd : X.N.Nodup := by rw [ok.hN]; exact ok.nd
  obtain ⟨a1, a2, a3⟩ := loc_of ok hi
  obtain ⟨b1, b2, b3⟩ := loc_of ok hj
  obtain ⟨c1, c2, c3⟩ := loc_of ok hl
  refine (ps_asg (pe_tup ha) (pg_tup (n := 3) ok.calm (pgs_cons (pg_name nd a1 a2 a3) (pgs_cons (pg_name nd b1 b2 b3) (pgs_cons (pg_name nd c1 c2 c3) pgs_nil)))) rfl (swB_ok hk ok.sc hsw) rfl).weak fun D σ H h => ?_
  refine par_tup h (by decide) fun vs vals H1 p p1 s1 rvs nw sm q => ?_
  obtain ⟨v, w, u, rfl, q⟩ := par_end3 s1 rvs nw sm q
  exact ⟨rfl, v, [w, u], rfl, w, [u], rfl, u, [], rfl, rfl, q⟩
theorem s_parT4 {i j l n : Nat} {x y z t : Str} {es : Es} {a b c d : Expr} {px py pz pu pt p2 : Pos} {kt k2 : Nat} (ok : XOk Γ xcl W N sc st k X) (hk : X.env.blockKind = .function) (hi : locB N sc st i x = true) (hj : locB N sc st j y = true) (hl : locB N sc st l z = true) (hn : locB N sc st n t = true)
    (hsw : swB sc [.Name x px, .Name y py, .Name z pz, .Name t pu] [a, b, c, d] = some none) (ha : PA X [a, b, c, d] (tPars (cfg X Γ xcl fx) W es)) :
    PS X (.Assign [.Tuple [.Name x px, .Name y py, .Name z pz, .Name t pu] kt pt] (.Tuple [a, b, c, d] k2 p2) pos) (tS (cfg X Γ xcl fx) W (.par (.tp4 (.nm i x) (.nm j y) (.nm l z) (.nm n t)) es)) := by
  have nd : X.N.Nodup := by rw [ok.hN]; exact ok.nd
  obtain ⟨a1, a2, a3⟩ := loc_of ok hi
  obtain ⟨b1, b2, b3⟩ := loc_of ok hj
  obtain ⟨c1, c2, c3⟩ := loc_of ok hl
  obtain ⟨d1, d2, d3⟩ := loc_of ok hn
  refine (ps_asg (pe_tup ha) (pg_tup (n := 4) ok.calm (pgs_cons (pg_name nd a1 a2 a3) (pgs_cons (pg_name nd b1 b2 b3) (pgs_cons (pg_name nd c1 c2 c3) (pgs_cons (pg_name nd d1 d2 d3) pgs_nil))))) rfl (swB_ok hk ok.sc hsw) rfl).weak fun D σ H h => ?_
  refine par_tup h (by decide) fun vs vals H1 p p1 s1 rvs nw sm q => ?_
  obtain ⟨v, w, u, r, rfl, q⟩ := par_end4 s1 rvs nw sm q
  exact ⟨rfl, v, [w, u, r], rfl, w, [u, r], rfl, u, [r], rfl, r, [], rfl, rfl, q⟩
end
end Mini

set_option Elab.async false
set_option linter.all false
set_option maxRecDepth 100000
set_option maxHeartbeats 4000000
namespace Mini
open PySem PySem.Spec PyProof.Rows L2
section
variable {X : Cx} {Γ : Env} {xcl : Str → Option Addr} {fx : Fx} {W : WX} {N : List Str} {sc : Scope} {st : Str → Bool} {k : Nat} {pos : Pos} {m : Bool}
/-! ### dict displays -/
theorem s_dic0 : PE X (.Dict [] [] pos) (tE (cfg X Γ xcl fx) W (.dic .nil .nil) m) := by
  refine ⟨fun pins s σ H Q I ⟨p, s0, q⟩ => ?_⟩
  have hDn : H s.heap.objs.size = none := I.hok.fresh (Nat.le_refl _)
  have I3 : Inv X pins σ (upd H s.heap.objs.size (exO s.heap.objs.size newDicObj)) { s with heap := s.heap.push newDicObj } := I.laid (t' := s.toks) (fun b o e => Heap.get?_push_of_some _ e) (Nat.le_refl _) (exO_ok (Heap.get?_push_size _ rfl))
  obtain ⟨s2, st2⟩ := s0.layO (o := exO s.heap.objs.size newDicObj) hDn
  have hf : p.Hf s.heap.objs.size = none := by
    cases z : p.Hf s.heap.objs.size with
    | none => rfl
    | some o => rw [s0.sub _ o z] at hDn; cases hDn
  refine wpAny_Dict_empty ⟨.ref s.heap.objs.size, _, I3, rfl, q _ _ p rfl s2 st2 ⟨_, rfl, dicAcc.start _ _ _ (Nat.ne_of_gt I.big), fun z => ?_⟩ fun _ _ => ⟨_, rfl, hDn, hf⟩⟩
  obtain ⟨o, e⟩ := s0.drSome z
  rw [hDn] at e; cases e
theorem dict_one {P : Program} {w : World} {A : Around} {E : Value → Shared → Prop} {s : Shared} {env : PySem.Env} {x y : Expr} {Q : Value → Shared → Prop}
    (h : wpAny (model P w) A (eval x env) (fun kv s4 => wpAny (model P w) A (eval y env) (fun vv s5 => wpAny (model P w) A (dictSet s.heap.objs.size kv vv) (fun _ s6 => Q (.ref s.heap.objs.size) s6) E s5) E s4) E { s with heap := s.heap.push newDicObj }) :
    wpAny (model P w) A (eval (.Dict [some x] [y] pos) env) Q E s := by
  have e : eval (.Dict [some x] [y] pos) env = (do standAt pos; dictDisplay ([(eval x env, (do let x ← eval y env; standAt pos; pure x : Sem Value))].map fun p => (some p.1, p.2))) := rfl
  rw [e, dictDisplay_pairs _ (by simp) (by simp)]
  refine wpAny_bind (wpAny_standAt (wpAny_bind ?_))
  unfold subDict
  refine wpAny_bind (wpAny_alloc (wpAny_bind (wpAny_holding ?_)))
  rw [if_pos (by simp)]
  refine wpAny_bind (evalPairs_cons (wpAny_mono h (fun kv s4 h4 => wpAny_bind (wpAny_mono h4 (fun vv s5 h5 => wpAny_bind (wpAny_standAt (wpAny_pure (evalPairs_nil ?_)))) fun _ _ z => z)) fun _ _ z => z))
  refine wpAny_holding ?_
  refine wpAny_bind ?_
  show wpAny _ _ (forIn [(kv, vv)] PUnit.unit fun (x : Value × Value) (_ : PUnit) => (do dictSet s.heap.objs.size x.1 x.2; pure (ForInStep.yield PUnit.unit) : Sem (ForInStep PUnit))) _ _ _
  rw [List.forIn_cons]
  refine wpAny_bind (wpAny_bind (wpAny_mono h5 (fun _ s6 h6 => wpAny_pure ?_) fun _ _ z => z))
  show wpAny _ _ (forIn ([] : List (Value × Value)) PUnit.unit _) _ _ _
  rw [List.forIn_nil]
  exact wpAny_pure (wpAny_pure (wpAny_pure (wpAny_pure h6)))
theorem s_dic1 {ke ve : E} {x y : Expr} (hu : X.A.units + 64 < cLine) (hk : PE X x (tE (cfg X Γ xcl fx) W ke true)) (hv : PE X y (tE (cfg X Γ xcl fx) W ve true)) : PE X (.Dict [some x] [y] pos) (tE (cfg X Γ xcl fx) W (.dic (.cons ke .nil) (.cons ve .nil)) m) := by
  refine ⟨fun pins s σ H Q I ⟨p, s0, q⟩ => ?_⟩
  have q : OutP ((ev Γ ke true >>= fun v => M.of (Mini.getD v) >>= fun a => ev Γ ve true >>= fun v => M.of (Mini.getD v) >>= fun b => if dcCond [] (a, b) = true then pure (Val.od [(a, b)]) else M.no) p.S) _ _ := q
  refine dict_one ?_
  have hDn : H s.heap.objs.size = none := I.hok.fresh (Nat.le_refl _)
  have hsys := Nat.ne_of_gt I.big
  have I3 : Inv X pins σ (upd H s.heap.objs.size (exO s.heap.objs.size newDicObj)) { s with heap := s.heap.push newDicObj } := I.laid (t' := s.toks) (fun b o e => Heap.get?_push_of_some _ e) (Nat.le_refl _) (exO_ok (Heap.get?_push_size _ rfl))
  generalize s.heap.objs.size = D at hDn hsys I3 ⊢
  obtain ⟨s2, st2⟩ := s0.layO (o := exO D newDicObj) hDn
  have fl2 : Fill (cfg X Γ xcl fx) p (upd H D (exO D newDicObj)) σ D := Fill.new s0 hDn exO_nfrz
  have tk : tE (cfg X Γ xcl fx) W ke true σ (upd H D (exO D newDicObj)) fun kx H4 => tE (cfg X Γ xcl fx) W ve true σ H4 fun vx H5 => ∃ Hf a b, Same Hf H5 ∧ DicAt X.w X.K Hf H5 D [] ∧ Rp X.w X.K Hf kx a ∧ Rp X.w X.K Hf vx b ∧ keysWith [] a = true ∧
      ∀ ob, DicAt X.w X.K Hf (upd H5 D (exO D ob)) D [(a, b)] → Q (.ref D) (upd H5 D (exO D ob)) := by
    refine tE.intro s2 (outP_bind q) (fun val v H4 p4 q4 s4 st4 rv fr => ?_) fun _ _ z => z.step st2
    obtain ⟨a, ea, q4⟩ := outP_of (outP_bind q4)
    obtain ⟨p5, e5, s5, st5, rv5, _, _⟩ := Sim.frzNew s4 st4 s2 rv (getD_of ea) (fr rfl)
    rw [← e5] at q4
    refine tE.intro s5 (outP_bind q4) (fun val' v' H6 p6 q6 s6 st6 rv6 fr6 => ?_) fun _ _ z => z.step (st2.trans st5)
    obtain ⟨b, eb, q6⟩ := outP_of (outP_bind q6)
    obtain ⟨p7, e7, s7, st7, rv7, _, _⟩ := Sim.frzNew s6 st6 s5 rv6 (getD_of eb) (fr6 rfl)
    rw [← e7] at q6
    split at q6
    · rename_i hc
      unfold dcCond at hc
      rw [Bool.and_eq_true] at hc
      obtain ⟨f5, k5⟩ := fl2.mov (Mov.of st5)
      obtain ⟨f7, k7⟩ := f5.mov (Mov.of st7)
      refine ⟨p7.Hf, a, b, s7.sub, dicAcc.look _ _ _ _ _ ((k7.trans k5).trans upd_same |>.trans (upd_same (H := H)).symm) (dicAcc.start _ H D hsys), Rp.mono st7.hf _ _ rv5, rv7, hc.1, fun ob da => ?_⟩
      obtain ⟨s8, f8⟩ := f7.put (o := exO D ob) s7 exO_nfrz
      have mv := ((Mov.of (st2.trans (st5.trans st7))).put (o := exO D ob) hDn).step
      exact outP_pure q6 (.ref D) _ p7 rfl s8 mv ⟨D, rfl, da, f7.dr⟩ fun _ _ => ⟨D, rfl, hDn, f7.hf⟩
    · exact q6.elim
  refine thn (hk.run pins _ σ _ _ I3 tk) fun kv s4 ⟨kx, H4, I4, rk, h4⟩ => ?_
  refine thn (hv.run pins s4 σ H4 _ I4 h4) fun vv s5 ⟨vx, H5, I5, rvv, Hf, a, b, sm, da, ra, rb, hkw, h5⟩ => ?_
  exact ask_dset hu I5 ⟨sm, da, Rp.mono sm _ _ ra, hkw⟩ ra rk rb rvv (Nat.zero_le _) fun o' s' I' da' => ⟨.ref D, _, I', rfl, h5 o' da'⟩
theorem s_fld {i : Nat} {x f : Str} {e : Expr} : PE X e (tE (cfg X Γ xcl fx) W (.fld i x f) m) := by
  refine pe_false fun σ H Q ⟨p, s, q⟩ => ?_
  have q : OutP ((getSlot i >>= fun v => match v with | .er _ fs => (M.of (fs.lookup f) >>= fun y => pure (Val.d y)) | _ => M.no) p.S) _ _ := q
  obtain ⟨v, e, q⟩ := slot_get (outP_bind q)
  obtain ⟨u, _, rv⟩ := s.slot i v e
  cases v with
  | er _ _ => exact rv
  | _ => exact q
end
end Mini

set_option Elab.async false
set_option linter.all false
set_option maxRecDepth 100000
set_option maxHeartbeats 4000000
namespace Mini
open PySem PySem.Spec PyProof.Rows L2
open PySem.W (Frag Looks InstAt)
/-! ### an error class whose __init__ calls the one above and stores fields -/
abbrev veB : List Value := [.type "ValueError", .type "Exception", .type "BaseException", .type "object"]
structure ErrK (K : Frag) (C fI : Addr) : Prop where
  cls : PySem.W.excInitIn K C veB "ValueError.__new__" = true
  cd : ∃ cd, PySem.W.clsIn K C = some cd ∧ HandSPX.refsVE cd.mro = true ∧ cd.hasDict = true
  sa : PySem.W.findIn K (.ref C) "__setattr__" = some (some (.builtin "object.__setattr__"))
  ini : PySem.W.findIn K (.ref C) "__init__" = some (some (.ref fI))
  tI : PySem.W.typeIn K (.ref fI) = some (.type "function")
  kC : PySem.W.keepIn K (.ref C) = true
  exC : PySem.W.subIn K (.ref C) (.type "BaseException") = some true
  tyC : PySem.W.typeIn K (.ref C) = some (.type "type")
  subV : PySem.W.subIn K (.ref C) (.type "ValueError") = some true
  subC : PySem.W.mroIn K C (.ref C) = some true
  sup : PySem.W.ks_superIn K C C "__init__" = some (some (.builtin "ValueError.__init__"))
  op : PySem.W.nsIn K cStatics "thirdparty.any" = some none
/-- the argument of the call above: a text, a parameter -/
def supArg (sc : Scope) (ps : List Str) : Expr → Bool
  | .Constant (.str _) _ _ => true
  | .Name x _ => ps.contains x && (sc.names.lookup x == some .local) && okN x
  | _ => false
def setsB (sc : Scope) (me : Str) (ps : List Str) : List Stmt → List (Str × Str) → Bool
  | [], [] => true
  | .Assign [.Attribute (.Name s _) f _] (.Name y _) _ :: r, (f', y') :: fs => decide (s = me) && decide (f = f') && decide (y = y') && ps.contains y && (sc.names.lookup y == some .local) && okN y && okN s && setsB sc me ps r fs
  | _, _ => false
/-- the body: super().__init__(a), then me.f = y, .. -/
def initB (sc : Scope) (me : Str) (ps : List Str) (fs : List (Str × Str)) : List Stmt → Bool
  | .Expr (.Call (.Attribute (.Call (.Name sp _) [] [] _) at_ p2) [a] [] p3) _ :: r => (p2.endLine == p3.line) && decide (sp = "super") && decide (at_ = "__init__") && supArg sc ps a && setsB sc me ps r fs
  | _ => false
structure InitK (P : Program) (K : Frag) (C fI : Addr) (fd : FuncData) (me : Str) (ps : List Str) (fs : List (Str × Str)) : Prop where
  lk : ∃ oc od osl, K.lookup fI = some ⟨oc, od, .func fd, osl⟩
  body : ∃ b, fd.body = .stmts b ∧ initB fd.scope me (me :: ps) fs b = true
  cell : ∃ cc, fd.closure = [(("__class__" : Str), cc)] ∧ ∃ cl cld csl, K.lookup cc = some ⟨cl, cld, .cell (some (.ref C)), csl⟩
  glo : fd.globals = mainGlobals
  blt : fd.builtins = builtinsNs
  code : PySem.W.codeIn K fd.code fd.qualname = true
  file : ∃ cda ccl cdd vs ccs file tf, fd.code = .ref cda ∧ K.lookup cda = some ⟨ccl, cdd, .fields vs, ccs⟩ ∧ vs[2]? = some (.str file tf) ∧ ((P.main.file : Str) == file) = true
  hco : fd.scope.isCoroutine = false
  hgen : fd.scope.isGenerator = false
  hk : fd.scope.kind = .function
  cells : ∀ x ∈ fd.scope.names, x.2 ≠ .cell
  loc : ∀ x ∈ me :: ps, fd.scope.names.lookup x = some .local
  ksup : fd.scope.names.lookup ("super" : Str) = some .globalImplicit
  kcls : fd.scope.names.lookup ("__class__" : Str) = some .free
  par : ∃ ar, (fd.params.posonlyargs ++ fd.params.args).head? = some ar ∧ ar.arg = me
  top : (P.main.scope.names.lookup ("super" : Str)).isSome = false
  bind : L2.Binds K fd (me :: ps) []
  nod : (me :: ps).Nodup
  noat : ∀ p ∈ fs, PySem.W.findIn K (.ref C) p.1 = some none
  few : fs.length ≤ 100
  fewp : ps.length ≤ 100
  inn : ∀ p ∈ fs, p.2 ∈ ps
/-- the exception under way: its dict, its fields -/
def ExAt (h : Heap) (C e : Addr) (d : Option Addr) (fs : List (Str × Value)) (lo : Nat) (L : Addr) : Prop :=
  ∃ t : Addr, (d = none ∧ fs = [] ∧ h.get? e = some (HandSPX.excO C t)) ∨ ∃ dx mA, d = some dx ∧ fs ≠ [] ∧ lo ≤ dx ∧ dx ≠ L ∧ dx ≠ e ∧ h.get? e = some { cls := .ref C, dict := some dx, data := .fields #[.ref t, .none, .none, .none, .bool false, .none] } ∧ h.Ns1 dx mA ∧ (∀ f, mA f = fs.lookup f) ∧ Within mA (fs.map (·.1))
section
variable {P : Program} {w : World} {K : Frag} {C fI : Addr} {fd : FuncData} {me : Str} {ps : List Str} {fs : List (Str × Str)}
variable {A : Around} {E : Value → Shared → Prop}
theorem lookup_put' (f g : Str) (y : Value) (fs : List (Str × Value)) : ((f, y) :: fs).lookup g = if g = f then some y else fs.lookup g := by
  by_cases h : g = f
  · subst h; simp [List.lookup]
  · have e : (g == f) = false := by simpa using h
    rw [if_neg h]; simp [List.lookup, e]
/-- me.f = v -/
theorem ex_set (T : ErrK K C fI) {s : Shared} {h₀ : Heap} {e L : Addr} {d : Option Addr} {done : List (Str × Value)} {f : Str} {v : Value} {m : Str → Option Value} {Q : Unit → Shared → Prop} (X₀ : K.In h₀) (keep : ∀ b o, h₀.get? b = some o → s.heap.get? b = some o) (he : h₀.get? e = none)
    (ns : s.heap.Ns L m) (hL : h₀.objs.size ≤ L) (neL : e ≠ L) (x : ExAt s.heap C e d done h₀.objs.size L) (hno : PySem.W.findIn K (.ref C) f = some none) (hl : done.length ≤ 900)
    (hq : ∀ h' tk d', (∀ b o, h₀.get? b = some o → h'.get? b = some o) → h'.Ns L m → ExAt h' C e d' ((f, v) :: done) h₀.objs.size L → Q () { s with heap := h', toks := tk }) : wpAny (model P w) A (setAttr (.ref e) f v) Q E s := by
  obtain ⟨cd, hcd, hm, hh⟩ := T.cd
  have X : K.In s.heap := X₀.keeps keep
  obtain ⟨hp, g, dr, tk, os⟩ := s
  have nse : ∀ {h' : Heap} {b : Addr}, b ≠ L → (∀ c o, c ≠ b → hp.get? c = some o → h'.get? c = some o) → h'.Ns L m := fun {h' b} hb k => by
    obtain ⟨oL, es, ep, q1, q2⟩ := ns
    exact ⟨oL, es, ep, k L oL (Ne.symm hb) q1, q2⟩
  obtain ⟨t, ⟨rfl, rfl, hx⟩ | ⟨dx, mA, rfl, _, hlo, hdL, hde, hx, hns, hm2, hw⟩⟩ := x
  · refine PySem.W.set_plain (ox := HandSPX.excO C t) (od := none) X ⟨hx, rfl, rfl, trivial⟩ T.sa ?_
    refine HandSPX.exc_osa X hx hcd hm hh hno fun h' tk' dx k hsz hne hx' hn' => ?_
    refine hq h' tk' (some dx) (fun b o q => k b o (fun z => by rw [z, he] at q; cases q) (keep b o q)) (nse neL k) ⟨t, .inr ⟨dx, _, rfl, List.cons_ne_nil _ _, ?_, ?_, hne, hx', hn', fun f' => ?_, ?_⟩⟩
    · obtain ⟨oL, es, ep, q1, _⟩ := ns
      exact Nat.le_trans hL (Nat.le_trans (Nat.le_of_lt (Heap.lt_size q1)) hsz)
    · intro z
      obtain ⟨oL, es, ep, q1, _⟩ := ns
      exact absurd (Nat.lt_of_lt_of_le (Heap.lt_size q1) hsz) (by rw [z]; exact Nat.lt_irrefl _)
    · rw [lookup_put']
      by_cases z : f' = f
      · rw [if_pos z, if_pos z]
      · rw [if_neg z, if_neg z]; rfl
    · exact Within.cons f v Within.nil
  · obtain ⟨oD, esD, epD, hoD, hdD, _⟩ := hns.count hw
    refine PySem.W.set_plain (ox := { cls := .ref C, dict := some dx, data := .fields #[.ref t, .none, .none, .none, .bool false, .none] }) (od := some oD) X ⟨hx, rfl, rfl, hoD⟩ T.sa ?_
    refine OEX.osa_old X hx hns hw (by rw [List.length_map]; omega) hcd hm hh hno fun h' tk' k hn' => ?_
    have hdn : h₀.get? dx = none := by
      cases z : h₀.get? dx with
      | none => rfl
      | some o => exact absurd (Nat.lt_of_lt_of_le (Heap.lt_size z) hlo) (Nat.lt_irrefl _)
    refine hq h' tk' (some dx) (fun b o q => k b o (fun z => by rw [z, hdn] at q; cases q) (keep b o q)) (nse hdL k) ⟨t, .inr ⟨dx, _, rfl, List.cons_ne_nil _ _, hlo, hdL, hde, k _ _ (Ne.symm hde) hx, hn', fun f' => ?_, ?_⟩⟩
    · rw [lookup_put']
      by_cases z : f' = f
      · rw [if_pos z, if_pos z]
      · rw [if_neg z, if_neg z]; exact hm2 f'
    · exact Within.cons f v hw
theorem okN_of {x : Str} (h : okN x = true) : (x == ("__debug__" : Str)) = false := by
  unfold okN at h
  simp only [Bool.and_eq_true, Bool.not_eq_true'] at h
  exact h.1.1
/-- a local name is read -/
theorem ld_loc {env : PySem.Env} {s : Shared} {m : Str → Option Value} {y : Str} {u : Value} {pos : Pos} {Q : Value → Shared → Prop} (hk : env.scope.kind = .function) (ns : s.heap.Ns env.locals m) (hl : env.scope.names.lookup y = some .local) (hd : okN y = true) (hm : m y = some u) (h : Q u s) : wpAny (model P w) A (eval (.Name y pos) env) Q E s :=
  wpAny_Name (wpAny_loadName_local hk hl ns hm h) (okN_of hd)
theorem setsB_cons {sc : Scope} {ps : List Str} {st : Stmt} {r : List Stmt} {fs : List (Str × Str)} (h : setsB sc me ps (st :: r) fs = true) : ∃ p1 f p2 y p3 p4 fs', st = .Assign [.Attribute (.Name me p1) f p2] (.Name y p3) p4 ∧ fs = (f, y) :: fs' ∧ ps.contains y = true ∧ (sc.names.lookup y == some .local) = true ∧ okN y = true ∧ okN me = true ∧ setsB sc me ps r fs' = true := by
  unfold setsB at h
  split at h
  · rename_i e; cases e
  · rename_i e1
    cases e1
    simp only [Bool.and_eq_true, decide_eq_true_eq] at h
    obtain ⟨⟨⟨⟨⟨⟨⟨rfl, rfl⟩, rfl⟩, h1⟩, h2⟩, h3⟩, h4⟩, h5⟩ := h
    exact ⟨_, _, _, _, _, _, _, rfl, rfl, h1, h2, h3, h4, h5⟩
  · cases h
theorem sets_run (T : ErrK K C fI) {env : PySem.Env} {h₀ : Heap} {e : Addr} {m : Str → Option Value} {Q : Flow → Shared → Prop} (hk : env.scope.kind = .function) (X₀ : K.In h₀) (he : h₀.get? e = none) (hL : h₀.objs.size ≤ env.locals) (neL : e ≠ env.locals) (hself : m me = some (.ref e)) (hself2 : env.scope.names.lookup me = some .local) :
    ∀ (r : List Stmt) (fs : List (Str × Str)) (s : Shared) (d : Option Addr) (done : List (Str × Value)), setsB env.scope me (me :: ps) r fs = true → (∀ p ∈ fs, PySem.W.findIn K (.ref C) p.1 = some none) → done.length + fs.length ≤ 900 → (∀ y ∈ me :: ps, ∃ u, m y = some u) →
      (∀ b o, h₀.get? b = some o → s.heap.get? b = some o) → s.heap.Ns env.locals m → ExAt s.heap C e d done h₀.objs.size env.locals →
      (∀ h' tk d', (∀ b o, h₀.get? b = some o → h'.get? b = some o) → ExAt h' C e d' ((fs.map fun p => (p.1, (m p.2).getD .none)).reverse ++ done) h₀.objs.size env.locals → Q .next { s with heap := h', toks := tk }) →
      wpAny (model P w) A (PySem.execs r env) Q E s
  | [], [], s, d, done, _, _, _, _, keep, ns, x, hq => wpAny_execs_nil (by simpa using hq s.heap s.toks d keep x)
  | [], _ :: _, _, _, _, hb, _, _, _, _, _, _, _ => by cases hb
  | st :: r, fs, s, d, done, hb, hno, hl, hm, keep, ns, x, hq => by
    obtain ⟨p1, f, p2, y, p3, p4, fs, rfl, rfl, h1, h2, h3, h4, h5⟩ := setsB_cons hb
    obtain ⟨u, hu⟩ := hm y (by simpa using h1)
    refine wpAny_execs_cons (plainObj_wpAny_Assign_Attribute (ld_loc hk ns (eq_of_beq h2) h3 hu (ld_loc hk ns hself2 h4 hself ?_)) rfl)
    refine ex_set T X₀ keep he ns hL neL x (hno _ (List.mem_cons_self ..)) (by simp at hl; omega) fun h' tk d' keep' ns' x' => ?_
    refine sets_run T hk X₀ he hL neL hself hself2 r fs { s with heap := h', toks := tk } d' ((f, u) :: done) h5 (fun p hp => hno p (List.mem_cons_of_mem _ hp)) (by simp at hl ⊢; omega) hm keep' ns' x' fun h'' tk' d'' k'' x'' => hq h'' tk' d'' k'' ?_
    simpa [hu] using x''
end
end Mini

set_option Elab.async false
set_option linter.all false
set_option maxRecDepth 100000
set_option maxHeartbeats 4000000
namespace Mini
open PySem PySem.Spec PyProof.Rows L2
open PySem.W (Frag Looks InstAt)
theorem lookup_none_of {l : List (Str × Value)} {x : Str} (h : x ∉ l.map (·.1)) : l.lookup x = none := by
  induction l with
  | nil => rfl
  | cons p r ih =>
    rw [List.map_cons, List.mem_cons, not_or] at h
    have e : (x == p.1) = false := by simpa using h.1
    rw [List.lookup_cons, e]
    exact ih h.2
theorem lookup_app {l r : List (Str × Value)} {x : Str} : (l ++ r).lookup x = match l.lookup x with | some v => some v | none => r.lookup x := by
  induction l with
  | nil => rfl
  | cons p l ih =>
    rw [List.cons_append, List.lookup_cons, List.lookup_cons]
    cases (x == p.1)
    · exact ih
    · rfl
theorem lookup_rev : ∀ {l : List (Str × Value)} {x : Str}, (l.map (·.1)).Nodup → l.reverse.lookup x = l.lookup x
  | [], _, _ => rfl
  | p :: r, x, h => by
    rw [List.map_cons, List.nodup_cons] at h
    rw [List.reverse_cons, lookup_app, lookup_rev h.2, List.lookup_cons]
    cases e : (x == p.1) with
    | false =>
      rw [List.lookup_cons, e]
      cases r.lookup x <;> rfl
    | true =>
      have ex : x = p.1 := by simpa using e
      rw [lookup_none_of (by rw [ex]; exact h.1), List.lookup_cons, e]
theorem zip_fst : ∀ {ps : List Str} {us : List Value}, us.length = ps.length → (ps.zip us).map (·.1) = ps
  | [], [], _ => rfl
  | p :: ps, u :: us, h => by
    rw [List.zip_cons_cons, List.map_cons, zip_fst (by simpa using h)]
  | [], _ :: _, h => by simp at h
  | _ :: _, [], h => by simp at h
theorem zip_some : ∀ {ps : List Str} {us : List Value} {y : Str}, us.length = ps.length → y ∈ ps → ∃ u, (ps.zip us).lookup y = some u
  | p :: ps, u :: us, y, h, hy => by
    rw [List.zip_cons_cons, List.lookup_cons]
    cases e : (y == p) with
    | true => exact ⟨u, rfl⟩
    | false =>
      have ne : y ≠ p := by simpa using e
      rcases List.mem_cons.mp hy with z | z
      · exact absurd z ne
      · exact zip_some (by simpa using h) z
  | _ :: _, [], _, h, _ => by simp at h
section
variable {P : Program} {w : World} {K : Frag} {C fI : Addr} {fd : FuncData} {me : Str} {ps : List Str} {fs : List (Str × Str)}
variable {A : Around} {E : Value → Shared → Prop}
theorem boot_super0 : bootBuiltins "super" = some (.type "super") := by decide +kernel
theorem initB_of {sc : Scope} {ps : List Str} {fs : List (Str × Str)} {b : List Stmt} (h : initB sc me ps fs b = true) : ∃ p0 p1 p2 a p3 p4 r, b = .Expr (.Call (.Attribute (.Call (.Name "super" p0) [] [] p1) "__init__" p2) [a] [] p3) p4 :: r ∧ (p2.endLine == p3.line) = true ∧ supArg sc ps a = true ∧ setsB sc me ps r fs = true := by
  unfold initB at h
  split at h
  · simp only [Bool.and_eq_true, decide_eq_true_eq] at h
    obtain ⟨⟨⟨⟨h0, rfl⟩, rfl⟩, h1⟩, h2⟩ := h
    exact ⟨_, _, _, _, _, _, _, rfl, h0, h1, h2⟩
  · cases h
/-- the values of the fields, the last stored ahead -/
def fldVals (me : Str) (ps : List Str) (us : List Value) (e : Addr) (fs : List (Str × Str)) : List (Str × Value) := (fs.map fun p => (p.1, (((me :: ps).zip (.ref e :: us)).lookup p.2).getD .none)).reverse
/-- what is known of the heap below -/
structure Ground0 (K : Frag) (h₀ : Heap) (mg : Str → Option Value) : Prop where
  X : K.In h₀
  G : h₀.Ns mainGlobals mg
  sup : mg "super" = none
  B : ∃ mb, h₀.Ns builtinsNs mb ∧ ∀ x : Str, x ≠ "__name__" → mb x = bootBuiltins x
  lim : h₀.NoLimit
theorem arg_read {env : PySem.Env} {s : Shared} {m : Str → Option Value} {a : Expr} {pss : List Str} {Q : Value → Shared → Prop} (hk : env.scope.kind = .function) (ns : s.heap.Ns env.locals m) (hm : ∀ y ∈ pss, ∃ u, m y = some u) (h : supArg env.scope pss a = true) (hq : ∀ u tk, Q u { s with toks := tk }) : wpAny (model P w) A (eval a env) Q E s := by
  unfold supArg at h
  split at h
  · exact Calls.Constant_str (hq _ _)
  · simp only [Bool.and_eq_true] at h
    obtain ⟨⟨h1, h2⟩, h3⟩ := h
    obtain ⟨u, hu⟩ := hm _ (by simpa using h1)
    exact ld_loc hk ns (eq_of_beq h2) h3 hu (hq u s.toks)
  · cases h
theorem arg_star {sc : Scope} {pss : List Str} {a : Expr} {env : PySem.Env} (h : supArg sc pss a = true) : starEach [a] env = [(false, eval a env)] := by
  unfold supArg at h
  split at h
  · rfl
  · rfl
  · cases h
theorem call_arm {sc : Scope} {pss : List Str} {a : Expr} {env : PySem.Env} {o : Expr} {name : Str} {p2 p3 : Pos} (h : supArg sc pss a = true) (hp : (p2.endLine == p3.line) = true) : ∃ pl, eval (.Call (.Attribute o name p2) [a] [] p3) env = (do
      let ov ← attributeBase o name env (eval o env)
      standAt p2.atName
      let (f, first) ← holding [ov] (getMethod ov name pl)
      callWith p3 f first (backTo p3 (starEach [a] env)) []) := by
  have e : eval (.Call (.Attribute o name p2) [a] [] p3) env = (do
      let ov ← attributeBase o name env (eval o env)
      standAt p2.atName
      methodCall o name p2 p3 env ov (1 + 0) (backTo p3 (starEach [a] env)) []) := rfl
  have few : methodCallForm (1 + 0) (backTo p3 (starEach [a] env)) [] = true := by rw [arg_star h]; rfl
  have mp : methodCallPos true o env p2 p3 = pure p3 := by
    unfold methodCallPos
    rw [hp]; rfl
  refine ⟨(do return (← importBound o env).getD true), ?_⟩
  rw [e]
  unfold methodCall calleeOf
  simp only [few, mp, if_true, pure_bind]
theorem init_run (T : ErrK K C fI) (N : InitK P K C fI fd me ps fs) {mg : Str → Option Value} {s : Shared} {h₀ : Heap} {e t0 : Addr} {us : List Value} {R : Result → Shared → Prop} (hroom : A.depth < recursionLimit) (D : Ground0 K h₀ mg)
    (keep : ∀ b o, h₀.get? b = some o → s.heap.get? b = some o) (hsz : h₀.objs.size ≤ s.heap.objs.size) (he : h₀.get? e = none) (hx : s.heap.get? e = some (HandSPX.excO C t0)) (hl : us.length = ps.length)
    (hq : ∀ h' tk d', (∀ b o, h₀.get? b = some o → h'.get? b = some o) → ExAt h' C e d' (fldVals me ps us e fs) h₀.objs.size s.heap.objs.size → R (.ok (.ret .none)) { s with heap := h', toks := tk }) :
    codeAny (model P w) A (.call (.ref fI) ⟨.ref e :: us, []⟩) R s := by
  obtain ⟨oc, od, osl, lk⟩ := N.lk
  obtain ⟨b, hb, hib⟩ := N.body
  obtain ⟨cc, hclo, cl, cld, csl, hcell⟩ := N.cell
  obtain ⟨cda, ccl, cdd, vs, ccs, file, tf, hcode, hcda, hvs, hfile⟩ := N.file
  obtain ⟨ar, hpar, rfl⟩ := N.par
  obtain ⟨p0, p1, p2, a, p3, p4, r, rfl, hpp, ha, hr⟩ := initB_of hib
  obtain ⟨cd, hcd, hmro, hdict⟩ := T.cd
  have X : K.In s.heap := D.X.keeps keep
  have hlen : (Value.ref e :: us).length = (ar.arg :: ps).length := by simp [hl]
  have hbind : BindsTo s fd ⟨.ref e :: us, []⟩ ((ar.arg :: ps).zip (.ref e :: us)) := by
    have := N.bind s (.ref e :: us) X (by rw [List.append_nil]; exact hlen)
    rwa [List.append_nil] at this
  have nd : (((ar.arg :: ps).zip (Value.ref e :: us)).map (·.1)).Nodup := by rw [zip_fst hlen]; exact N.nod
  refine PySem.ks_codeAny_call_defAt (fd := fd) (binds := (ar.arg :: ps).zip (.ref e :: us)) hroom (X _ _ lk) rfl (D.lim.keeps keep) (PySem.W.codeRec_of X N.code) hb hbind N.cells (fun y hy => N.loc y.1 (by rw [← zip_fst hlen]; exact List.mem_map.mpr ⟨y, hy, rfl⟩)) (fun h1 hns hk1 => ?_) N.hco N.hgen N.hk
  have em : (fun x => (((ar.arg :: ps).zip (Value.ref e :: us)).reverse).lookup x) = fun x => ((ar.arg :: ps).zip (Value.ref e :: us)).lookup x := funext fun x => lookup_rev nd
  rw [em] at hns
  generalize hm : (fun x => ((ar.arg :: ps).zip (Value.ref e :: us)).lookup x) = m at hns
  have hself : m ar.arg = some (.ref e) := by
    rw [← hm]
    show ((ar.arg :: ps).zip (Value.ref e :: us)).lookup ar.arg = _
    rw [List.zip_cons_cons, List.lookup_cons, beq_self_eq_true]
  have hmem : ∀ y ∈ ar.arg :: ps, ∃ u, m y = some u := fun y hy => by rw [← hm]; exact zip_some hlen hy
  have hlt : e < s.heap.objs.size := Heap.lt_size hx
  have keep1 : ∀ b o, h₀.get? b = some o → h1.get? b = some o := fun b o q => hk1 b o (keep b o q)
  have X1 : K.In h1 := D.X.keeps keep1
  have hx1 := hk1 _ _ hx
  have FR : Fr h₀ s.heap.objs.size h1 m := ⟨hns, keep1, hsz⟩
  have NW : News h₀ s.heap.objs.size h1 [(e, HandSPX.excO C t0)] := fun p hp => by
    have := List.mem_singleton.mp hp
    subst this
    exact ⟨hx1, Nat.ne_of_lt hlt, he⟩
  obtain ⟨pl, hpl⟩ := call_arm (env := callEnv fd s.heap.objs.size fI) (o := .Call (.Name "super" p0) [] [] p1) (name := "__init__") (p2 := p2) (p3 := p3) ha hpp
  refine PySem.ks_wpAt_execs_cons (PySem.ks_wpAt_Expr_any (PySem.ks_wpAt_MethodCall ?_ hpl) ?_ rfl)
  rotate_left
  · show interactive (callEnv fd s.heap.objs.size fI) = false
    simp [interactive, callEnv, newEnv, N.hk]
  have hD1 : ∃ oD, h1.get? C = some oD ∧ oD.data = .cls cd := by
    have hcd := hcd
    unfold PySem.W.clsIn at hcd
    split at hcd
    · rename_i c d cd' sl ho
      cases hcd
      exact ⟨_, X1 _ _ ho, rfl⟩
    · cases hcd
  obtain ⟨oD, hD1, hD2⟩ := hD1
  refine PySem.ks_wpAt_super_base (env := callEnv fd s.heap.objs.size fI) N.ksup N.kcls (by decide) rfl (X1 _ _ lk) rfl hpar hcode (X1 _ _ hcda) rfl hvs hfile N.top ?_
  obtain ⟨mb, hB1, hB2⟩ := D.B
  refine PySem.W.ks_loadName_global N.hk N.ksup (Calls.loadGlobal_builtin (env := callEnv fd s.heap.objs.size fI) (mg := mg) (mb := mb) ?_ D.sup ?_ ((hB2 _ (by decide)).trans boot_super0) ⟨rfl, ?_⟩)
  · show h1.Ns fd.globals mg
    rw [N.glo]; exact D.G.keeps keep1
  · show h1.Ns fd.builtins mb
    rw [N.blt]; exact hB1.keeps keep1
  refine wpAny_loadName_free N.hk N.kcls (show List.lookup ("__class__" : Str) fd.closure = some cc by rw [hclo]; rfl) ⟨_, X1 _ _ hcell, rfl⟩ ?_
  refine wpAny_loadName_local N.hk (N.loc _ (List.mem_cons_self ..)) hns hself ?_
  refine PySem.ks_wpAny_isType_cls hD1 hD2 ⟨rfl, ?_⟩
  refine PySem.ks_wpAny_call_super hD1 hD2 hx1 rfl (fun c q => nomatch q) (PySem.W.looks_mroIn X1 T.subC) fun h2 hso k2 => ?_
  obtain ⟨F2, N2, _⟩ := PySem.W.ks_newsPush (s := ⟨h1, s.gens, s.drawn, s.toks, s.os⟩) FR NW rfl hso k2
  have I2 : InstAt h2 e (HandSPX.excO C t0) C none := ⟨k2 _ _ hx1, rfl, rfl, trivial⟩
  refine PySem.W.kxs_method PySem.W.kxs_ValueError F2 D.X N2 (List.mem_cons_self ..) I2 T.op T.sup T.subV (by decide) fun u h3 F3 N3 _ => ?_
  refine PySem.W.kxs_callWith1 N3 (List.mem_cons_self ..) ?_ (arg_star ha) rfl
  have ex3 : News h₀ s.heap.objs.size h3 [(u, PySem.W.kxs_mw "ValueError.__init__" e), (h1.objs.size, PySem.W.ks_superObj C e C), (e, HandSPX.excO C t0)] := N3
  refine spliced_more (arg_read N.hk F3.ns hmem ha fun v tk => spliced_none ⟨PySem.W.kxs_at N3 (List.mem_cons_self ..), ?_⟩) (arg_star ha)
  have hue : u ≠ e := fun z => by
    have a1 := (N3 _ (List.mem_cons_self ..)).1
    have a2 := (N3 _ (List.mem_cons_of_mem _ (List.mem_cons_of_mem _ (List.mem_cons_self ..)))).1
    rw [z] at a1
    rw [a2] at a1
    cases a1
  have hse : h1.objs.size ≠ e := fun z => by
    have a1 := (N3 _ (List.mem_cons_of_mem _ (List.mem_cons_self ..))).1
    have a2 := (N3 _ (List.mem_cons_of_mem _ (List.mem_cons_of_mem _ (List.mem_cons_self ..)))).1
    rw [z] at a1
    rw [a2] at a1
    cases a1
  refine PySem.W.kxs_call (s := ⟨h3, s.gens, s.drawn, tk, s.os⟩) (t := t0) (dv := none) (c2 := .none) F3 D.X N3 F.excBase_ValueError T.cls (List.mem_cons_self ..) (.tail hue (.tail hse (.head (fun p hp => nomatch hp)))) (by show 1 ≤ sizeLine; decide) fun t1 h4 F4 N4 _ => ?_
  have hx4 : h4.get? e = some (HandSPX.excO C t1) := (N4 (e, HandSPX.excO C t1) (by simp)).1
  refine PySem.ks_wpAt_mono (wpAt_of_wpAny (sets_run (env := callEnv fd s.heap.objs.size fI) (ps := ps) T N.hk D.X he hsz (Nat.ne_of_lt hlt) hself (N.loc _ (List.mem_cons_self ..)) r fs ⟨h4, s.gens, s.drawn, tk, s.os⟩ none [] hr N.noat (by have := N.few; simp; omega) hmem F4.keep F4.ns ⟨t1, .inl ⟨rfl, rfl, hx4⟩⟩ (fun h' tk' d' k' x' => ?_))) (fun _ _ z => z) fun _ _ z => z
  refine hq h' tk' d' k' ?_
  unfold fldVals
  rw [← hm, List.append_nil] at x'
  exact x'
end
end Mini

set_option Elab.async false
set_option linter.all false
set_option maxRecDepth 100000
set_option maxHeartbeats 4000000
namespace Mini
open PySem PySem.Spec PyProof.Rows L2
open PySem.W (Frag Looks InstAt)
/-! ### an error is made -/
/-- the fields by the arguments -/
def fldV (ps : List Str) (vs : List V) (fs : List (Str × Str)) : List (Str × V) := (fs.map fun p => (p.1, ((ps.zip vs).lookup p.2).getD .non)).reverse
theorem zip_rel : ∀ {ps : List Str} {vs : List V} {us : List Value} {y : Str}, Vals vs us → vs.length = ps.length → y ∈ ps → ∃ v u, (ps.zip vs).lookup y = some v ∧ (ps.zip us).lookup y = some u ∧ RelV v u
  | p :: ps, v :: vs, u :: us, y, .cons r rr, h, hy => by
    rw [List.zip_cons_cons, List.zip_cons_cons, List.lookup_cons, List.lookup_cons]
    cases e : (y == p) with
    | true => exact ⟨v, u, rfl, rfl, r⟩
    | false =>
      have ne : y ≠ p := by simpa using e
      rcases List.mem_cons.mp hy with z | z
      · exact absurd z ne
      · exact zip_rel rr (by simpa using h) z
  | _ :: _, [], _, _, _, h, _ => by simp at h
theorem flds_rel {ps : List Str} {vs : List V} {us : List Value} {me : Str} {e : Addr} (hv : Vals vs us) (hl : vs.length = ps.length) (nd : (me :: ps).Nodup) : ∀ {fs : List (Str × Str)}, (∀ p ∈ fs, p.2 ∈ ps) → Paired (fun (p : Str × V) (q : Str × Value) => p.1 = q.1 ∧ RelV p.2 q.2) (fs.map fun p => (p.1, ((ps.zip vs).lookup p.2).getD .non)) (fs.map fun p => (p.1, (((me :: ps).zip (.ref e :: us)).lookup p.2).getD .none))
  | [], _ => .nil
  | p :: fs, h => by
    refine .cons ⟨rfl, ?_⟩ (flds_rel hv hl nd fun q hq => h q (List.mem_cons_of_mem _ hq))
    obtain ⟨v, u, h1, h2, h3⟩ := zip_rel hv hl (h p (List.mem_cons_self ..))
    have ne : p.2 ≠ me := fun z => by
      rw [List.nodup_cons] at nd
      exact nd.1 (z ▸ h p (List.mem_cons_self ..))
    show RelV (((ps.zip vs).lookup p.2).getD .non) ((((me :: ps).zip (Value.ref e :: us)).lookup p.2).getD .none)
    rw [List.zip_cons_cons, List.lookup_cons, show (p.2 == me) = false by simpa using ne, h1, h2]
    exact h3
theorem paired_rev {α β : Type} {R : α → β → Prop} : ∀ {l : List α} {r : List β}, Paired R l r → Paired R l.reverse r.reverse
  | _, _, .nil => .nil
  | _, _, .cons h t => by
    rw [List.reverse_cons, List.reverse_cons]
    have app : ∀ {l l' : List α} {r r' : List β}, Paired R l r → Paired R l' r' → Paired R (l ++ l') (r ++ r') := by
      intro l l' r r' h1 h2
      induction h1 with
      | nil => exact h2
      | cons h t ih => exact .cons h ih
    exact app (paired_rev t) (.cons h .nil)
theorem relO_of : ∀ {l : List (Str × V)} {r : List (Str × Value)}, Paired (fun (p : Str × V) (q : Str × Value) => p.1 = q.1 ∧ RelV p.2 q.2) l r → ∀ f, RelO (l.lookup f) (r.lookup f)
  | _, _, .nil, _ => trivial
  | (k, v) :: l, (k', u) :: r, .cons ⟨h1, h2⟩ t, f => by
    have h1 : k = k' := h1
    subst h1
    rw [List.lookup_cons, List.lookup_cons]
    cases f == k
    · exact relO_of t f
    · exact h2
section
variable {P : Program} {w : World} {K : Frag} {C fI : Addr} {fd : FuncData} {me : Str} {ps : List Str} {fs : List (Str × Str)}
theorem call_err {A : Around} {E : Value → Shared → Prop} (T : ErrK K C fI) (N : InitK P K C fI fd me ps fs) {mg : Str → Option Value} {s : Shared} {us : List Value} {Q : Value → Shared → Prop} (hroom : A.depth + 1 < recursionLimit) (D : Ground0 K s.heap mg) (hl : us.length = ps.length) (hz : us.length ≤ sizeLine)
    (hq : ∀ h' tk e d' L, (∀ b o, s.heap.get? b = some o → h'.get? b = some o) → s.heap.get? e = none → ExAt h' C e d' (fldVals me ps us e fs) s.heap.objs.size L → Q (.ref e) { s with heap := h', toks := tk }) :
    wpAny (model P w) A (call (.ref C) us) Q E s := by
  obtain ⟨nm, N', qn, bs, bm, hdct, sn, sub, ab, col, dd, k0, k1, k2, k3, k5, hC, hT⟩ := PySem.W.excInit_of D.X T.cls
  obtain ⟨hp, g, dr, tk, os⟩ := s
  have kk : ∀ b o, hp.get? b = some o → ((hp.push (PySem.W.kdv_tup us)).push (HandSPX.excO C hp.objs.size)).get? b = some o := fun b o e => Heap.get?_push_of_some _ (Heap.get?_push_of_some _ e)
  have hsz : (hp.push (PySem.W.kdv_tup us)).objs.size = hp.objs.size + 1 := Heap.size_push ..
  have hget : ((hp.push (PySem.W.kdv_tup us)).push (HandSPX.excO C hp.objs.size)).get? (hp.objs.size + 1) = some (HandSPX.excO C hp.objs.size) := by rw [← hsz]; exact Heap.get?_push_size _ rfl
  have hn : hp.get? (hp.objs.size + 1) = none := by
    cases z : hp.get? (hp.objs.size + 1) with
    | none => rfl
    | some o => exact absurd (Heap.lt_size z) (Nat.not_lt.mpr (Nat.le_succ _))
  refine wpAny_call (HandSPX.call_own F.excBase_ValueError hT hC (PySem.W.looks_findIn D.X T.ini) (fun me => PySem.W.bind_fn D.X me T.tI) hz ?_)
  refine init_run T N (h₀ := hp) (mg := mg) (t0 := hp.objs.size) (by rw [make_depth]; exact hroom) D kk ?_ hn hget hl fun h' tk' d' k' x' => ⟨rfl, hq h' tk' _ d' _ k' hn x'⟩
  show hp.objs.size ≤ ((hp.push (PySem.W.kdv_tup us)).push (HandSPX.excO C hp.objs.size)).objs.size
  rw [Heap.size_push, hsz]
  exact Nat.le_trans (Nat.le_succ _) (Nat.le_succ _)
end
section
variable {X : Cx} {C fI : Addr} {fd : FuncData} {me : Str} {ps : List Str} {fs : List (Str × Str)}
def tErr (C : Addr) (ps : List Str) (fs : List (Str × Str)) (ta : TA) : L2.St → Hp → XK → Prop := fun σ H Q => ta σ H fun vs H1 => vs.length = ps.length ∧ vs.length ≤ 1000 ∧ ((fs = [] → Q (.ref C) none H1) ∧ ∀ d, H1 d = none → fs ≠ [] → Q (.ref C) (some d) (upd H1 d (.xd (fldV ps vs fs))))
theorem ground_of {pins : List (Addr × Obj)} {σ : L2.St} {H : Hp} {s : Shared} (I : Inv X pins σ H s) (hsup : X.mg "super" = none) : Ground0 X.K s.heap X.mg :=
  ⟨I.kIn, I.mod.glob.keeps I.bk, hsup, let ⟨mb, h1, h2⟩ := I.mod.blt; ⟨mb, h1.keeps I.bk, h2⟩, I.nolimit⟩
theorem pmk_err {k : Nat} {c : Str} {p pos : Pos} {e : Expr} {es : List Expr} {ta : TA} (T : ErrK X.K C fI) (N : InitK X.prog X.K C fI fd me ps fs) (hr : Room k X.A) (hsup : X.mg "super" = none) (hg : Gl X c) (hm : X.mg c = some (.ref C)) (hdb : (c == ("__debug__" : Str)) = false) (ha : PA X (e :: es) ta) (am : ArgOk X e es) :
    PMk X (.Call (.Name c p) (e :: es) [] pos) (tErr C ps fs ta) := by
  intro pins s σ H Q I h
  refine wpAny_Call_Name_kw (ld_glob I hg hm ?_ hdb)
  refine PySem.W.callWith_K (h₀ := X.base) I.ok.mod.kin T.kC (thn (ha.run pos pins s σ H _ I h) fun us s1 ⟨vs, H1, I1, r1, hl, hz, q1, q2⟩ => ⟨I1.kIn, ?_⟩) am.he (am.hpl pos)
  have hlu : us.length = ps.length := by rw [← r1.length]; exact hl
  refine call_err T N (by have := hr.dp; omega) (ground_of I1 hsup) hlu (by show us.length ≤ sizeLine; rw [hlu, ← hl, sizeLine_eq]; omega) fun h' tk' a d' L k' hn x' => ?_
  obtain ⟨G, g1, g2⟩ := restrict h' fun b => decide (b ≠ a)
  have gk : ∀ b, b ≠ a → G.get? b = h'.get? b := fun b hb => g1 b (decide_eq_true hb)
  have ge : G.get? a = none := g2 a (by simp)
  have kG : ∀ b o, G.get? b = some o → h'.get? b = some o := fun b o z => by
    by_cases hb : b = a
    · rw [hb, ge] at z; cases z
    · rw [← gk b hb]; exact z
  have sG : ∀ b o, s1.heap.get? b = some o → G.get? b = some o := fun b o z => by
    rw [gk b (fun y => by rw [y, hn] at z; cases z)]
    exact k' b o z
  have Ha : H1 a = none := I1.hok.gone hn
  have R : Raises X (.ref C) := raises_own T.exC T.tyC
  obtain ⟨t, ⟨rfl, efs, hx⟩ | ⟨dx, mA, rfl, hne, hlo, _, hde, hx, hns, hm2, hw⟩⟩ := x'
  · have e0 : fs = [] := by
      unfold fldVals at efs
      have := congrArg List.length efs
      simpa using this
    exact ⟨a, _, _, { s1 with heap := G, toks := tk' }, H1, .ref C, none, rfl, I1.kept sG, kG, ge, hx, ⟨rfl, rfl⟩, rfl, rfl, Ha, rfl, I1.bare, R, q1 e0⟩
  · have ne0 : fs ≠ [] := fun z => by
      subst z
      exact hne rfl
    have hd1 : H1 dx = none := I1.hok.fresh hlo
    have rel : ∀ f, RelO ((fldV ps vs fs).lookup f) (mA f) := fun f => by
      rw [hm2]
      exact relO_of (paired_rev (flds_rel r1 hl N.nod N.inn)) f
    have J : Inv X pins σ (upd H1 dx (.xd (fldV ps vs fs))) { s1 with heap := G, toks := tk' } := I1.laid (t' := tk') sG hlo ⟨mA, hns.at fun o y => (gk dx hde).trans y, rel⟩
    exact ⟨a, _, _, { s1 with heap := G, toks := tk' }, _, .ref C, some dx, rfl, J, kG, ge, hx, ⟨rfl, rfl⟩, rfl, rfl, by rw [upd_ne (Ne.symm hde)]; exact Ha, rfl, I1.bare, R, q2 dx hd1 ne0⟩
end
end Mini

set_option Elab.async false
set_option linter.all false
set_option maxRecDepth 100000
set_option maxHeartbeats 4000000
namespace Mini
open PySem PySem.Spec PyProof.Rows L2
structure EcOk (X : Cx) (Γ : Env) (xcl : Str → Option Addr) : Prop where
  ec : ∀ c ps fs, Γ.exc c = some (ps, fs) → ∃ C fI fd me, xcl c = some C ∧ ErrK X.K C fI ∧ InitK X.prog X.K C fI fd me ps fs ∧ XfC X.K C
  xm : ∀ a b A B, xcl a = some A → xcl b = some B → PySem.W.exmOne X.K (.ref A) (.ref B) = some (decide (a = b))
  xg : ∀ c C, xcl c = some C → X.mg c = some (.ref C)
theorem zip_rp {w : World} {K : PySem.W.Frag} {Hf : Hp} : ∀ {ps : List Str} {vs : List V} {xs : List PyData} {y : Str}, RpAll w K Hf vs xs → vs.length = ps.length → y ∈ ps → ∃ v x, (ps.zip vs).lookup y = some v ∧ (ps.zip xs).lookup y = some x ∧ Rp w K Hf v x
  | p :: ps, v :: vs, u :: us, y, .cons r rr, h, hy => by
    rw [List.zip_cons_cons, List.zip_cons_cons, List.lookup_cons, List.lookup_cons]
    cases e : (y == p) with
    | true => exact ⟨v, u, rfl, rfl, r⟩
    | false =>
      have ne : y ≠ p := by simpa using e
      rcases List.mem_cons.mp hy with z | z
      · exact absurd z ne
      · exact zip_rp rr (by simpa using h) z
  | _ :: _, [], _, _, _, h, _ => by simp at h
theorem fldD_rp {w : World} {K : PySem.W.Frag} {Hf : Hp} {ps : List Str} {vs : List V} {xs : List PyData} {fs : List (Str × Str)} (r : RpAll w K Hf vs xs) (hl : vs.length = ps.length) (hin : ∀ p ∈ fs, p.2 ∈ ps) :
    (fldV ps vs fs).map (·.1) = (fldD ps xs fs).map (·.1) ∧ RpAll w K Hf ((fldV ps vs fs).map (·.2)) ((fldD ps xs fs).map (·.2)) := by
  unfold fldV fldD
  refine ⟨by simp [List.map_reverse], ?_⟩
  rw [List.map_reverse, List.map_reverse]
  refine RpAll.reverse ?_
  rw [List.map_map, List.map_map]
  induction fs with
  | nil => exact .nil
  | cons p fs ih =>
    obtain ⟨v, x, h1, h2, h3⟩ := zip_rp r hl (hin p (List.mem_cons_self ..))
    refine .cons ?_ (ih fun q hq => hin q (List.mem_cons_of_mem _ hq))
    show Rp w K Hf (((ps.zip vs).lookup p.2).getD .non) (((ps.zip xs).lookup p.2).getD .none)
    rw [h1, h2]; exact h3
theorem fldD_nil {ps : List Str} {xs : List PyData} {fs : List (Str × Str)} (h : fldD ps xs fs ≠ []) : fs ≠ [] := fun z => h (by rw [z]; rfl)
section
variable {X : Cx} {Γ : Env} {xcl : Str → Option Addr} {fx : Fx} {W : WX} {N : List Str} {sc : Scope} {st : Str → Bool} {k : Nat} {pos : Pos} {m : Bool}
theorem s_raise {c : Str} {es : Es} {x : Expr} {xs : List Expr} {p cpos : Pos} (ok : XOk Γ xcl W N sc st k X) (ec : EcOk X Γ xcl) (hg : glB sc c = true) (hes : isEs N sc es (x :: xs) = true) (ha : PA X (x :: xs) (tArgs (cfg X Γ xcl fx) W es)) :
    PS X (.Raise (some (.Call (.Name c p) (x :: xs) [] cpos)) none pos) (tS (cfg X Γ xcl fx) W (.raise c es)) := by
  obtain ⟨g1, g2, g3⟩ := gl_of ok hg
  cases he : Γ.exc c with
  | none =>
    refine ps_never.weak fun D σ H ⟨p, s, q⟩ => ?_
    have q : OutP ((if (Γ.exc c).isSome = true then (evs Γ es >>= fun vs => M.of (datas vs) >>= fun ys => M.of (excOf Γ c ys) >>= fun e => (fun s => Out.er e s : M Flw)) else M.no) p.S) _ _ := q
    rw [he] at q
    exact q
  | some pf =>
    obtain ⟨ps, fs⟩ := pf
    obtain ⟨C, fI, fd, me, hx, T, NK, xf⟩ := ec.ec c ps fs he
    refine (ps_raise ok.calm ok.tk (pmk_err T NK ok.room (ok.G.bt _ (by decide)) g1 (ec.xg c C hx) g2 ha (argOk_of hes))).weak fun D σ H ⟨p, s, q⟩ => ?_
    have q : OutP ((if (Γ.exc c).isSome = true then (evs Γ es >>= fun vs => M.of (datas vs) >>= fun ys => M.of (excOf Γ c ys) >>= fun e => (fun s => Out.er e s : M Flw)) else M.no) p.S) _ _ := q
    rw [if_pos (by rw [he]; rfl)] at q
    refine tArgs.intro s (outP_bind q) (fun vals vs H1 p1 q1 s1 st1 rvs hos => ?_) fun _ _ z => z.ew
    obtain ⟨ys, e1, q1⟩ := outP_of (outP_bind q1)
    obtain ⟨err, e2, q1⟩ := outP_of (outP_bind q1)
    have q1 : EWS (cfg X Γ xcl fx) W p.Hf err p1.S := q1
    have rp := datas_all e1 rvs
    unfold excOf at e2
    rw [he] at e2
    dsimp only at e2
    split at e2
    · rename_i hl
      cases e2
      have hlv : vs.length = ps.length := by rw [rp.length, hl]
      refine ⟨hlv, by rw [hlv]; have := NK.fewp; omega, fun e0 => ?_, fun d hd hne => ?_⟩
      · exact q1 (.ref C) none σ H1 p1 rfl s1 st1.hf ⟨C, hx, rfl, fun z => absurd e0 (fldD_nil z)⟩
      · obtain ⟨s2, st2⟩ := s1.layO (o := .xd (fldV ps vs fs)) hd
        obtain ⟨f1, f2⟩ := fldD_rp rp hlv NK.inn
        exact q1 (.ref C) (some d) σ _ p1 rfl s2 st1.hf ⟨C, hx, rfl, fun _ => ⟨d, _, rfl, upd_same, f1, f2⟩⟩
    · cases e2
/-! ### try -/
theorem Sim.forget {c : Cfg} {p : Pt} {H : Hp} {σ : L2.St} (s : c.sim p H σ) (j : Nat) (o : Option V) : c.sim ⟨{ p.S with ρ := p.S.ρ.set j none }, p.Hf, p.L⟩ H (σ.set j o) := by
  have gs : ∀ {i : Nat} {v : Val}, (p.S.ρ.set j none)[i]? = some (some v) → i ≠ j ∧ p.S.ρ[i]? = some (some v) := fun {i v} h => by
    by_cases e : i = j
    · subst e
      by_cases hl : i < p.S.ρ.length
      · rw [List.getElem?_set_self hl] at h; cases h
      · rw [List.getElem?_eq_none (by simpa using hl)] at h; cases h
    · rw [List.getElem?_set_ne (Ne.symm e)] at h; exact ⟨e, h⟩
  have own : ∀ b, SlotOwn ⟨{ p.S with ρ := p.S.ρ.set j none }, p.Hf, p.L⟩ (σ.set j o) b → SlotOwn p σ b := fun b ⟨i, v, h1, h2, h3⟩ => by
    obtain ⟨e, h1⟩ := gs h1
    rw [List.getElem?_set_ne (Ne.symm e)] at h3
    exact ⟨i, v, h1, h2, h3⟩
  refine ⟨s.sub, ?_, fun i v h => ?_, fun b h => s.own b (own b h), fun i l v v' a hij h1 h2 o1 o2 h3 h4 => ?_, s.dr, s.dr0, s.drA, s.base, s.newf, s.hf0, s.ex0, s.l0⟩
  · show (p.S.ρ.set j none).length = (σ.set j o).length
    rw [List.length_set, List.length_set]; exact s.len
  · obtain ⟨e, h⟩ := gs h
    rw [List.getElem?_set_ne (Ne.symm e)]
    exact s.slot i v h
  · obtain ⟨e1, h1⟩ := gs h1
    obtain ⟨e2, h2⟩ := gs h2
    rw [List.getElem?_set_ne (Ne.symm e1)] at h3
    rw [List.getElem?_set_ne (Ne.symm e2)] at h4
    exact s.apart i l v v' a hij h1 h2 o1 o2 h3 h4
def cstB : PyData → Expr → Bool
  | .none, .Constant .none _ _ => true
  | .bool b, .Constant (.bool c) _ _ => b == c
  | .int b, .Constant (.int c) _ _ => decide (b = c)
  | .str b, .Constant (.str c) _ _ => decide (b = c)
  | _, _ => false
def fldB (n : Str) (f : Str) : Expr → Bool
  | .Attribute (.Name y _) g _ => decide (y = n) && decide (g = f)
  | _ => false
def hxL (n : Option Str) (f : Str) (e : Expr) : Bool := match n, e with
  | some m, .List [a] _ => fldB m f a
  | _, _ => false
def hxT (n : Option Str) (f g : Str) (e : Expr) : Bool := match n, e with
  | some m, .Tuple [a, b] _ _ => fldB m f a && fldB m g b
  | _, _ => false
def isHx (n : Option Str) : Hx → Expr → Bool
  | .cst x, e => cstB x e
  | .fld f, e => match n with
    | some m => fldB m f e
    | none => false
  | .lst f, e => hxL n f e
  | .tp2 f g, e => hxT n f g e
  | .self, _ => false
theorem pe_cst {x : PyData} {e : Expr} (h : cstB x e = true) : flatD x = true ∧ PE X e (tC (toV x)) := by
  unfold cstB at h
  split at h
  · exact ⟨rfl, pe_non⟩
  · have := eq_of_beq h; subst this; exact ⟨rfl, pe_bl⟩
  · have := of_decide_eq_true h; subst this; exact ⟨rfl, pe_int⟩
  · have := of_decide_eq_true h; subst this; exact ⟨rfl, pe_str⟩
  · cases h
/-- what the suite's value reads; C the class of the clause, j the error's slot -/
def tHx (C : Addr) (j : Nat) (a : Addr) (cls : Value) (d : Option Addr) : Hx → TE
  | .cst x => tC (toV x)
  | .fld f => tXf a cls d C f (tVar j)
  | .lst f => tLst (tCons (tXf a cls d C f (tVar j)) tNil)
  | .tp2 f g => tTup (tCons (tXf a cls d C f (tVar j)) (tCons (tXf a cls d C g (tVar j)) tNil))
  | .self => fun _ _ _ => False
def hxFlds : Hx → List Str
  | .fld f => [f]
  | .lst f => [f]
  | .tp2 f g => [f, g]
  | _ => []
theorem pe_fldX {C a : Addr} {oe : Obj} {cls : Value} {d : Option Addr} {pn : List (Addr × Obj)} {n f : Str} {j : Nat} {e : Expr} (xf : XfC X.K C) (hno : PySem.W.findIn X.K (.ref C) f = some none) (hz : Zc cls d oe) (hf : ∃ vs, oe.data = .fields vs) (h1 : X.N[j]? = some n) (h2 : Vis X.env.scope n) (h3 : (n == ("__debug__" : Str)) = false) (h4 : (n == ("__classdict__" : Str)) = false) (h : fldB n f e = true) :
    PE (X.suite a ((a, oe) :: pn)) e (tXf a cls d C f (tVar j)) := by
  unfold fldB at h
  split at h
  · rw [Bool.and_eq_true, decide_eq_true_eq, decide_eq_true_eq] at h
    obtain ⟨rfl, rfl⟩ := h
    exact pe_xf xf hno hz hf (pe_var (X := X.suite a ((a, oe) :: pn)) h1 h2 h3 h4) rfl
  · cases h
theorem fldB_star {n f : Str} {e : Expr} (h : fldB n f e = true) : notStar e = true := by
  unfold fldB at h
  split at h
  · rfl
  · cases h
theorem pe_hx {C a : Addr} {oe : Obj} {cls : Value} {d : Option Addr} {pn : List (Addr × Obj)} {n : Option Str} {j : Nat} {hx : Hx} {e : Expr} (xf : XfC X.K C) (hno : ∀ f ∈ hxFlds hx, PySem.W.findIn X.K (.ref C) f = some none) (hz : Zc cls d oe) (hf : ∃ vs, oe.data = .fields vs)
    (hn : ∀ m, n = some m → X.N[j]? = some m ∧ Vis X.env.scope m ∧ (m == ("__debug__" : Str)) = false ∧ (m == ("__classdict__" : Str)) = false) (h : isHx n hx e = true) : PE (X.suite a ((a, oe) :: pn)) e (tHx C j a cls d hx) := by
  cases hx with
  | cst x => exact (pe_cst h).2
  | fld f =>
    cases n with
    | none => cases h
    | some m =>
      obtain ⟨h1, h2, h3, h4⟩ := hn m rfl
      exact pe_fldX xf (hno f (List.mem_cons_self ..)) hz hf h1 h2 h3 h4 h
  | lst f =>
    have h : hxL n f e = true := h
    unfold hxL at h
    split at h
    · obtain ⟨h1, h2, h3, h4⟩ := hn _ rfl
      exact pe_lst (pa_cons (pe_fldX xf (hno f (List.mem_cons_self ..)) hz hf h1 h2 h3 h4 h) pa_nil (star_cons [] _ (fldB_star h)))
    · cases h
  | tp2 f g =>
    have h : hxT n f g e = true := h
    unfold hxT at h
    split at h
    · obtain ⟨h1, h2, h3, h4⟩ := hn _ rfl
      rw [Bool.and_eq_true] at h
      exact pe_tup (pa_cons (pe_fldX xf (hno f (List.mem_cons_self ..)) hz hf h1 h2 h3 h4 h.1) (pa_cons (pe_fldX xf (hno g (List.mem_cons_of_mem _ (List.mem_cons_self ..))) hz hf h1 h2 h3 h4 h.2) pa_nil (star_cons [] _ (fldB_star h.2))) (star_cons _ _ (fldB_star h.1)))
    · cases h
  | self => cases h
theorem fld_of {c : Cfg} {Hf H : Hp} {d : Option Addr} {e : Err} {C a : Addr} {j : Nat} {σ : L2.St} {f : Str} {x : PyData} {Q : VK} (hs : σ[j]? = some (some (.ref a))) (xr : ExcRep c Hf H (.ref C) d e) (hf : e.fs.lookup f = some x) (q : ∀ v, Rp c.w c.K Hf v x → Q v H) : tXf a (.ref C) d C f (tVar j) σ H Q := by
  obtain ⟨C', hx, ec, h⟩ := xr
  have ne : e.fs ≠ [] := fun z => by rw [z] at hf; cases hf
  obtain ⟨dd, fs, rfl, hd, k1, k2⟩ := h ne
  have key : ∀ {fs : List (Str × V)} {gs : List (Str × PyData)}, fs.map (·.1) = gs.map (·.1) → RpAll c.w c.K Hf (fs.map (·.2)) (gs.map (·.2)) → gs.lookup f = some x → ∃ v, fs.lookup f = some v ∧ Rp c.w c.K Hf v x := by
    intro fs
    induction fs with
    | nil =>
      intro gs e1 _ e3
      cases gs with
      | nil => cases e3
      | cons _ _ => cases e1
    | cons p fs ih =>
      intro gs e1 e2 e3
      cases gs with
      | nil => cases e1
      | cons q gs =>
        rw [List.map_cons, List.map_cons, List.cons.injEq] at e1
        rw [List.map_cons, List.map_cons] at e2
        cases e2 with
        | cons r rr =>
          rw [List.lookup_cons] at e3 ⊢
          rw [e1.1]
          cases z : f == q.1 with
          | true => rw [z] at e3; cases e3; exact ⟨_, rfl, r⟩
          | false => rw [z] at e3; exact ih e1.2 rr e3
  obtain ⟨v, hv, rv⟩ := key k1 k2 hf
  exact ⟨.ref a, hs, rfl, rfl, dd, fs, v, rfl, hd, hv, q v rv⟩
/-- the suite's value is made -/
theorem hx_read {c : Cfg} {p : Pt} {H : Hp} {σ : L2.St} {d : Option Addr} {e : Err} {C a : Addr} {j : Nat} {hx : Hx} {val : Val} {Q : VK} (s : c.sim p H σ) (hcst : ∀ x, hx = .cst x → flatD x = true) (hself : hx ≠ .self) (hs : hxFlds hx ≠ [] → σ[j]? = some (some (.ref a))) (xr : ExcRep c p.Hf H (.ref C) d e) (hv : hx.val e = some val)
    (q : ∀ v H' p', p'.S = p.S → c.sim p' H' σ → Step p H p' H' σ → c.rv p' H' v val → Fresh H p' v val → Q v H') : tHx C j a (.ref C) d hx σ H Q := by
  cases hx with
  | cst x =>
    cases hv
    exact q (toV x) H p rfl s (Step.refl p H σ) (Rp.flat (hcst x rfl)) fun z => nomatch z
  | fld f =>
    obtain ⟨x, e1, rfl⟩ := Option.map_eq_some_iff.mp (show (e.fs.lookup f).map Val.d = some val from hv)
    exact fld_of (hs (List.cons_ne_nil _ _)) xr e1 fun v rv => q v H p rfl s (Step.refl p H σ) rv fun z => nomatch z
  | lst f =>
    obtain ⟨x, e1, rfl⟩ := Option.map_eq_some_iff.mp (show (e.fs.lookup f).map (fun x => Val.ol [x]) = some val from hv)
    refine fld_of (hs (List.cons_ne_nil _ _)) xr e1 fun v rv => ⟨by show 1 ≤ sizeLine; decide, fun T hT => ?_⟩
    obtain ⟨s2, st2, rv2, hn⟩ := newLst (c := c) s (.cons rv .nil) hT
    exact q (.ref T) _ p rfl s2 st2 rv2 fun _ => ⟨T, rfl, hT, hn⟩
  | tp2 f g =>
    have hv : (match e.fs.lookup f, e.fs.lookup g with | some x, some y => some (Val.d (.tuple [x, y])) | _, _ => none) = some val := hv
    split at hv
    · rename_i x y e1 e2
      cases hv
      show tXf a (.ref C) d C f (tVar j) σ H (fun v H1 => tXf a (.ref C) d C g (tVar j) σ H1 (fun v' H2 => [v, v'].length ≤ sizeLine ∧ ∀ T, H2 T = none → Q (.ref T) (upd H2 T (.tup [v, v']))))
      refine fld_of (hs (List.cons_ne_nil _ _)) xr e1 fun v rv => fld_of (hs (List.cons_ne_nil _ _)) xr e2 fun v' rv' => ⟨by show 2 ≤ sizeLine; decide, fun T hT => ?_⟩
      obtain ⟨p2, e2, s2, st2, rv2⟩ := newTup (c := c) s (.cons rv (.cons rv' .nil)) hT
      exact q (.ref T) _ p2 e2 s2 st2 rv2 fun z => nomatch z
    · cases hv
  | self => exact absurd rfl hself
end
end Mini

set_option Elab.async false
set_option linter.all false
set_option maxRecDepth 100000
set_option maxHeartbeats 4000000
namespace Mini
open PySem PySem.Spec PyProof.Rows L2
abbrev ExcT := Str → Option (List Str × List (Str × Str))
def asB (N : List Str) (sc : Scope) (i : Nat) (as : Option (Nat × Str)) (n : Option Str) : Bool := match as, n with
  | none, none => true
  | some (j, m), some n => decide (m = n) && decide (N[j]? = some n) && (sc.names.lookup n == some .local) && okN n && decide (j ≠ i)
  | _, _ => false
def fldsB (exc : ExcT) (c : Str) (fs : List Str) : Bool := match exc c with
  | some (_, gs) => fs.all fun f => (gs.map (·.1)).contains f
  | none => false
def isHd (N : List Str) (sc : Scope) (st : Str → Bool) (exc : ExcT) (h : Hd) : ExceptHandler → Bool
  | .ExceptHandler (some (.Name c _)) n [.Assign [.Name x _] v _] _ => decide (h.cls = [c]) && glB sc c && decide (x = h.x) && locB N sc st h.i x && noComp v && isHx n h.hx v && asB N sc h.i h.as n && fldsB exc c (hxFlds h.hx)
  | _ => false
theorem isHd_of {N : List Str} {sc : Scope} {st : Str → Bool} {exc : ExcT} {h : Hd} {hd : ExceptHandler} (e : isHd N sc st exc h hd = true) : ∃ c p1 n p2 v p3 p4, hd = .ExceptHandler (some (.Name c p1)) n [.Assign [.Name h.x p2] v p3] p4 ∧ h.cls = [c] ∧ glB sc c = true ∧ locB N sc st h.i h.x = true ∧ noComp v = true ∧ isHx n h.hx v = true ∧ asB N sc h.i h.as n = true ∧ fldsB exc c (hxFlds h.hx) = true := by
  unfold isHd at e
  split at e
  · simp only [Bool.and_eq_true, decide_eq_true_eq] at e
    obtain ⟨⟨⟨⟨⟨⟨⟨h1, h2⟩, rfl⟩, h4⟩, h5⟩, h6⟩, h7⟩, h8⟩ := e
    exact ⟨_, _, _, _, _, _, _, rfl, h1, h2, h4, h5, h6, h7, h8⟩
  · cases e
section
variable {X : Cx} {Γ : Env} {xcl : Str → Option Addr} {fx : Fx} {W : WX} {N : List Str} {sc : Scope} {st : Str → Bool} {k : Nat} {pos : Pos} {m : Bool}
theorem XOk.tr (ok : XOk Γ xcl W N sc st k X) {W' : WX} {pn : List (Addr × Obj)} {xe : Value → Shared → Prop} (tk : Takes (X.tr pn xe) W') (po : PassesOwn (model X.prog X.w) X.A X.env xe) : XOk Γ xcl W' N sc st k (X.tr pn xe) :=
  ⟨⟨ok.G.bt, ok.G.gl, ok.G.fn⟩, ok.hN, ok.nd, ok.sc, ok.calm, ok.room, ok.gd, tk, po, ok.hst⟩
theorem isHx_self {n : Option Str} {hx : Hx} {e : Expr} (h : isHx n hx e = true) : hx ≠ .self := fun z => by subst z; cases h
theorem cst_flat {x : PyData} {e : Expr} (h : cstB x e = true) : flatD x = true := by
  unfold cstB at h
  split at h
  · rfl
  · rfl
  · rfl
  · rfl
  · cases h
theorem isHx_cst {n : Option Str} {hx : Hx} {e : Expr} (h : isHx n hx e = true) (x : PyData) (z : hx = .cst x) : flatD x = true := by
  subst z
  exact cst_flat h
/-- the clause's class is known -/
theorem cls_of (ec : EcOk X Γ xcl) {c : Str} {fs : List Str} (h : fldsB Γ.exc c fs = true) : ∃ C, xcl c = some C ∧ XfC X.K C ∧ ∀ f ∈ fs, PySem.W.findIn X.K (.ref C) f = some none := by
  unfold fldsB at h
  split at h
  · rename_i ps gs e
    obtain ⟨C, fI, fd, me, hx, T, NK, xf⟩ := ec.ec c ps gs e
    refine ⟨C, hx, xf, fun f hf => ?_⟩
    have := List.all_eq_true.mp h f hf
    have hm : f ∈ gs.map (·.1) := by simpa using this
    obtain ⟨p, hp, rfl⟩ := List.mem_map.mp hm
    exact NK.noat p hp
  · cases h
theorem tr_out {b : Ss} {h : Hd} {S : Sta} {kk : Flw → Sta → Prop} {ke ke' : Err → Sta → Prop} (q : OutP (exec Γ (.tr b h) S) kk ke) (he : ∀ e S', execs Γ b S = .er e S' → OutP (handle h e S') kk ke → ke' e S') : OutP (execs Γ b S) kk ke' := by
  have q : OutP (match execs Γ b S with | .er e s' => handle h e s' | o => o) kk ke := q
  cases er : execs Γ b S with
  | ok f S' => rw [er] at q; exact q
  | no => rw [er] at q; exact q
  | er e S' => rw [er] at q; exact he e S' er q
theorem handle_yes {h : Hd} {e : Err} {S : Sta} {c : Str} {kk : Flw → Sta → Prop} {ke : Err → Sta → Prop} (hc : h.cls = [c]) (he : e.cls = c) (q : OutP (handle h e S) kk ke) : ∃ v, h.hx.val e = some v ∧ (h.i < S.ρ.length ∧ asIn h.as S.ρ.length = true) ∧ kk .nx { S with ρ := match h.as with | some (j, _) => (S.ρ.set h.i (some v)).set j none | none => S.ρ.set h.i (some v) } := by
  unfold handle at q
  rw [if_pos (by rw [hc, he]; simp)] at q
  cases ev : h.hx.val e with
  | none => rw [ev] at q; exact q.elim
  | some v =>
    rw [ev] at q
    dsimp only at q
    split at q
    · rename_i hl; exact ⟨v, rfl, hl, q⟩
    · exact q.elim
theorem handle_no {h : Hd} {e : Err} {S : Sta} {c : Str} {kk : Flw → Sta → Prop} {ke : Err → Sta → Prop} (hc : h.cls = [c]) (he : e.cls ≠ c) (q : OutP (handle h e S) kk ke) : ke e S := by
  unfold handle at q
  rw [if_neg (by rw [hc]; simpa using he)] at q
  exact q
theorem s_try {b : Ss} {h : Hd} {body : List Stmt} {hd : ExceptHandler} (ok : XOk Γ xcl W N sc st k X) (ec : EcOk X Γ xcl) (hs : X.stack = X.env :: X.outer) (hf : X.env.frame = some X.env.locals) (hh : isHd N sc st Γ.exc h hd = true)
    (hb : ∀ (W : WX) (pn : List (Addr × Obj)) (xe : Value → Shared → Prop), XOk Γ xcl W N sc st k (X.tr pn xe) → EcOk (X.tr pn xe) Γ xcl → PSs (X.tr pn xe) body (tSs (cfg X Γ xcl fx) W b)) :
    PS X (.Try body [hd] [] [] pos) (tS (cfg X Γ xcl fx) W (.tr b h)) := by
  obtain ⟨c, p1, n, p2, v, p3, p4, rfl, hcl, hg, hl, hnc, hhx, has, hfl⟩ := isHd_of hh
  obtain ⟨C, hxc, xf, hno⟩ := cls_of ec hfl
  obtain ⟨g1, g2, g3⟩ := gl_of ok hg
  obtain ⟨l1, l2, l3⟩ := loc_of ok hl
  have nd : X.N.Nodup := by rw [ok.hN]; exact ok.nd
  have names : Names X c (.ref C) := ⟨g1, g2, .inl (ec.xg c C hxc)⟩
  have hb' : ∀ (W : WX) (pn : List (Addr × Obj)) (xe : Value → Shared → Prop), Takes (X.tr pn xe) W → PassesOwn (model X.prog X.w) X.A X.env xe → PSs (X.tr pn xe) body (tSs (cfg X Γ xcl fx) W b) := fun W pn xe tk po => hb W pn xe (ok.tr tk po) ⟨ec.ec, ec.xm, ec.xg⟩
  have decls : ∀ {e : Err} {Hf H : Hp} {cls : Value} {d : Option Addr}, ExcRep (cfg X Γ xcl fx) Hf H cls d e → PySem.W.exmOne X.K cls (.ref C) = some (decide (e.cls = c)) ∧ (e.cls = c → cls = .ref C) := fun {e Hf H cls d} xr => by
    obtain ⟨C', h1, rfl, _⟩ := xr
    refine ⟨ec.xm e.cls c C' C h1 hxc, fun z => ?_⟩
    have h1 : xcl e.cls = some C' := h1
    rw [z, hxc] at h1
    cases h1; rfl
  cases n with
  | none =>
    have has : h.as = none := by
      unfold asB at has
      split at has
      · assumption
      · rename_i e; cases e
      · cases has
    refine (ps_try_only (ts := fun a cls d => tAsg (tHx C 0 a cls d h.hx) (gName h.i)) hs hf names ok.tk hb' fun a oe cls d pn hz hfv => pss_one (ps_set (X := X.suite a ((a, oe) :: pn)) nd l1 l2 (pe_hx xf hno hz hfv (fun m z => by cases z) hhx) (sw_noComp hnc) l3)).weak fun D σ H ⟨p, s, q⟩ => ?_
    refine ⟨p, s, tr_out q fun e S' er q => ?_⟩
    intro cls d σ' H' p' e1 s' sm xr
    subst e1
    obtain ⟨x1, x2⟩ := decls xr
    refine ⟨decide (e.cls = c), x1, fun hb a ha => ?_, fun hb => ?_⟩
    · have hb := of_decide_eq_true hb
      obtain ⟨val, ev, hi, q⟩ := handle_yes hcl hb q
      rw [has] at q
      have ecl := x2 hb
      subst ecl
      refine hx_read s' (isHx_cst hhx) (isHx_self hhx) (fun z => ?_) xr ev fun v H'' p'' eS s'' st'' rv fr => ?_
      · exfalso
        cases hx : h.hx with
        | cst x => rw [hx] at z; exact z rfl
        | fld f => rw [hx] at hhx; cases hhx
        | lst f => rw [hx] at hhx; unfold isHx hxL at hhx; cases hhx
        | tp2 f g => rw [hx] at hhx; unfold isHx hxT at hhx; cases hhx
        | self => rw [hx] at hhx; cases hhx
      · have hi' : h.i < p''.S.ρ.length := by rw [eS]; exact hi.1
        refine q (σ'.set h.i (some v)) H'' ⟨{ p''.S with ρ := p''.S.ρ.set h.i (some val) }, p''.Hf, p''.L⟩ (by rw [eS]) (s''.set rv hi' fun z => ?_) (sm.trans st''.hf)
        obtain ⟨a', e1, e2, e3, e4⟩ := NewV.fresh (c := cfg X Γ xcl fx) s' st'' fr z
        exact ⟨a', e1, e2, e3, fun j u q1 q2 q3 => (e4 j u q1 q2 q3).elim⟩
    · have hb := of_decide_eq_false hb
      exact handle_no hcl hb q cls d σ' H' p' rfl s' sm xr
  | some n =>
    obtain ⟨j, has, hj, hjl, hok, hji⟩ : ∃ j, h.as = some (j, n) ∧ N[j]? = some n ∧ (sc.names.lookup n == some .local) = true ∧ okN n = true ∧ j ≠ h.i := by
      unfold asB at has
      split at has
      · rename_i e; cases e
      · rename_i e1 e2
        simp only [Bool.and_eq_true, decide_eq_true_eq] at has
        cases e2
        obtain ⟨⟨⟨⟨rfl, h2⟩, h3⟩, h4⟩, h5⟩ := has
        exact ⟨_, e1, h2, h3, h4, h5⟩
      · cases has
    have hjN : X.N[j]? = some n := by rw [ok.hN]; exact hj
    have hloc : X.env.scope.names.lookup n = some .local := lcl hjl ok.sc
    have hd1 := hok
    unfold okN at hd1
    simp only [Bool.and_eq_true, Bool.not_eq_true'] at hd1
    refine (ps_try_as (i := j) (ts := fun a cls d => tAsg (tHx C j a cls d h.hx) (gName h.i)) hs hf nd hjN hloc names ok.tk hb' fun a oe cls d pn hz hfv => pss_one (ps_set (X := X.suite a ((a, oe) :: pn)) nd l1 l2 (pe_hx xf hno hz hfv (fun m z => by cases z; exact ⟨hjN, .inl hloc, hd1.1.1, hd1.1.2⟩) hhx) (sw_noComp hnc) l3)).weak fun D σ H ⟨p, s, q⟩ => ?_
    refine ⟨p, s, tr_out q fun e S' er q => ?_⟩
    intro cls d σ' H' p' e1 s' sm xr
    subst e1
    obtain ⟨x1, x2⟩ := decls xr
    refine ⟨decide (e.cls = c), x1, fun hb a ha => ?_, fun hb => ?_⟩
    · have hb := of_decide_eq_true hb
      obtain ⟨val, ev, hi, q⟩ := handle_yes hcl hb q
      rw [has] at q
      have ecl := x2 hb
      subst ecl
      have s0 := Sim.forget (c := cfg X Γ xcl fx) s' j (some (.ref a))
      have hjs : j < σ'.length := by
        have hi2 := hi.2
        rw [has] at hi2
        rw [← s'.len]
        exact of_decide_eq_true hi2
      have hi := hi.1
      refine hx_read s0 (isHx_cst hhx) (isHx_self hhx) (fun _ => List.getElem?_set_self hjs) xr ev fun v H'' p'' eS s'' st'' rv fr => ?_
      have hi' : h.i < p''.S.ρ.length := by rw [eS]; show h.i < (p'.S.ρ.set j none).length; rw [List.length_set]; exact hi
      have s1 := s''.set (i := h.i) rv hi' fun z => by
        obtain ⟨a', e1, e2, e3, e4⟩ := NewV.fresh (c := cfg X Γ xcl fx) s0 st'' fr z
        exact ⟨a', e1, e2, e3, fun j u q1 q2 q3 => (e4 j u q1 q2 q3).elim⟩
      have s2 := Sim.forget (c := cfg X Γ xcl fx) s1 j none
      refine q _ H'' ⟨{ p''.S with ρ := (p''.S.ρ.set h.i (some val)).set j none }, p''.Hf, p''.L⟩ ?_ s2 (sm.trans st''.hf)
      show ({ p''.S with ρ := (p''.S.ρ.set h.i (some val)).set j none } : Sta) = _
      rw [eS]
      show ({ p'.S with ρ := ((p'.S.ρ.set j none).set h.i (some val)).set j none } : Sta) = _
      rw [List.set_comm _ _ hji, List.set_set]
    · have hb := of_decide_eq_false hb
      exact handle_no hcl hb q cls d σ' H' p' rfl s' sm xr
end
end Mini

set_option Elab.async false
set_option linter.all false
set_option maxRecDepth 100000
set_option maxHeartbeats 4000000
namespace Mini
open PySem PySem.Spec PyProof.Rows L2
section
variable {N : List Str} {sc : Scope}
theorem inv_var {i : Nat} {n : Str} {x : Expr} (h : isE N sc (.var i n) x = true) : ∃ p, x = .Name n p ∧ varB N sc i n = true := by
  have h : (match (generalizing := false) x with | .Name y _ => decide (y = n) && varB N sc i n | _ => false) = true := h
  split at h
  · simp only [Bool.and_eq_true, decide_eq_true_eq] at h; obtain ⟨rfl, h⟩ := h; exact ⟨_, rfl, h⟩
  · cases h
theorem inv_int {n : Int} {x : Expr} (h : isE N sc (.int n) x = true) : ∃ j p, x = .Constant (.int n) j p := by
  have h : (match (generalizing := false) x with | .Constant (.int m) _ _ => decide (m = n) | _ => false) = true := h
  split at h
  · simp only [Bool.and_eq_true, decide_eq_true_eq] at h; subst h; exact ⟨_, _, rfl⟩
  · cases h
theorem inv_str {n : Str} {x : Expr} (h : isE N sc (.str n) x = true) : ∃ j p, x = .Constant (.str n) j p := by
  have h : (match (generalizing := false) x with | .Constant (.str m) _ _ => decide (m = n) | _ => false) = true := h
  split at h
  · simp only [Bool.and_eq_true, decide_eq_true_eq] at h; subst h; exact ⟨_, _, rfl⟩
  · cases h
theorem inv_bl {n : Bool} {x : Expr} (h : isE N sc (.bl n) x = true) : ∃ j p, x = .Constant (.bool n) j p := by
  have h : (match (generalizing := false) x with | .Constant (.bool m) _ _ => decide (m = n) | _ => false) = true := h
  split at h
  · simp only [Bool.and_eq_true, decide_eq_true_eq] at h; subst h; exact ⟨_, _, rfl⟩
  · cases h
theorem inv_non  {x : Expr} (h : isE N sc (.non) x = true) : ∃ j p, x = .Constant .none j p := by
  have h : (match (generalizing := false) x with | .Constant .none _ _ => true | _ => false) = true := h
  split at h
  · exact ⟨_, _, rfl⟩
  · cases h
theorem inv_glob {n : Str} {x : Expr} (h : isE N sc (.glob n) x = true) : ∃ p, x = .Name n p ∧ glB sc n = true := by
  have h : (match (generalizing := false) x with | .Name y _ => decide (y = n) && glB sc n | _ => false) = true := h
  split at h
  · simp only [Bool.and_eq_true, decide_eq_true_eq] at h; obtain ⟨rfl, h⟩ := h; exact ⟨_, rfl, h⟩
  · cases h
theorem inv_tup {es : Es} {x : Expr} (h : isE N sc (.tup es) x = true) : ∃ xs j p, x = .Tuple xs j p ∧ isEs N sc es xs = true := by
  have h : (match (generalizing := false) x with | .Tuple xs _ _ => isEs N sc es xs | _ => false) = true := h
  split at h
  · exact ⟨_, _, _, rfl, h⟩
  · cases h
theorem inv_lst {es : Es} {x : Expr} (h : isE N sc (.lst es) x = true) : ∃ xs p, x = .List xs p ∧ isEs N sc es xs = true := by
  have h : (match (generalizing := false) x with | .List xs _ => isEs N sc es xs | _ => false) = true := h
  split at h
  · exact ⟨_, _, rfl, h⟩
  · cases h
theorem inv_dic0  {x : Expr} (h : isE N sc (.dic .nil .nil) x = true) : ∃ p, x = .Dict [] [] p := by
  have h : (match (generalizing := false) x with | .Dict [] [] _ => true | _ => false) = true := h
  split at h
  · exact ⟨_, rfl⟩
  · cases h
theorem inv_dic1 {k v : E} {x : Expr} (h : isE N sc (.dic (.cons k .nil) (.cons v .nil)) x = true) : ∃ a b p, x = .Dict [some a] [b] p ∧ isE N sc k a = true ∧ isE N sc v b = true := by
  have h : (match (generalizing := false) x with | .Dict [some a] [b] _ => isE N sc k a && isE N sc v b | _ => false) = true := h
  split at h
  · simp only [Bool.and_eq_true, decide_eq_true_eq] at h; exact ⟨_, _, _, rfl, h.1, h.2⟩
  · cases h
theorem inv_dic3 {k1 k2 k3 v1 v2 v3 : E} {x : Expr} (h : isE N sc (.dic (.cons k1 (.cons k2 (.cons k3 .nil))) (.cons v1 (.cons v2 (.cons v3 .nil)))) x = true) : ∃ x1 x2 x3 y1 y2 y3 p, x = .Dict [some x1, some x2, some x3] [y1, y2, y3] p ∧ (isE N sc k1 x1 = true ∧ isE N sc k2 x2 = true ∧ isE N sc k3 x3 = true) ∧ isE N sc v1 y1 = true ∧ isE N sc v2 y2 = true ∧ isE N sc v3 y3 = true := by
  have h : (match (generalizing := false) x with | .Dict [some x1, some x2, some x3] [y1, y2, y3] _ => (isE N sc k1 x1 && (isE N sc k2 x2 && isE N sc k3 x3)) && (isE N sc v1 y1 && (isE N sc v2 y2 && isE N sc v3 y3)) | _ => false) = true := h
  split at h
  · simp only [Bool.and_eq_true, decide_eq_true_eq] at h; exact ⟨_, _, _, _, _, _, _, rfl, h.1, h.2⟩
  · cases h
theorem inv_bin {op : BOp} {a b : E} {x : Expr} (h : isE N sc (.bin op a b) x = true) : ∃ y z p, x = .BinOp y (bop op) z p ∧ isE N sc a y = true ∧ isE N sc b z = true := by
  have h : (match (generalizing := false) x with | .BinOp y o z _ => decide (o = bop op) && isE N sc a y && isE N sc b z | _ => false) = true := h
  split at h
  · simp only [Bool.and_eq_true, decide_eq_true_eq] at h; obtain ⟨⟨rfl, h1⟩, h2⟩ := h; exact ⟨_, _, _, rfl, h1, h2⟩
  · cases h
theorem inv_neg {a : E} {x : Expr} (h : isE N sc (.neg a) x = true) : ∃ y p, x = .UnaryOp .USub y p ∧ isE N sc a y = true := by
  have h : (match (generalizing := false) x with | .UnaryOp .USub y _ => isE N sc a y | _ => false) = true := h
  split at h
  · exact ⟨_, _, rfl, h⟩
  · cases h
theorem inv_not {a : E} {x : Expr} (h : isE N sc (.not a) x = true) : ∃ y p, x = .UnaryOp .Not y p ∧ isE N sc a y = true := by
  have h : (match (generalizing := false) x with | .UnaryOp .Not y _ => isE N sc a y | _ => false) = true := h
  split at h
  · exact ⟨_, _, rfl, h⟩
  · cases h
theorem inv_cmp {op : COp} {a b : E} {x : Expr} (h : isE N sc (.cmp op a b) x = true) : ∃ y z p, x = .Compare y [cop op] [z] p ∧ notSet z = true ∧ isE N sc a y = true ∧ isE N sc b z = true := by
  have h : (match (generalizing := false) x with | .Compare y [o] [z] _ => decide (o = cop op) && notSet z && isE N sc a y && isE N sc b z | _ => false) = true := h
  split at h
  · simp only [Bool.and_eq_true, decide_eq_true_eq] at h; obtain ⟨⟨⟨rfl, h0⟩, h1⟩, h2⟩ := h; exact ⟨_, _, _, rfl, h0, h1, h2⟩
  · cases h
theorem inv_cmp2 {op op' : COp} {a b c : E} {x : Expr} (h : isE N sc (.cmp2 op op' a b c) x = true) : ∃ y z u p, x = .Compare y [cop op, cop op'] [z, u] p ∧ notSet z = true ∧ notSet u = true ∧ isE N sc a y = true ∧ isE N sc b z = true ∧ isE N sc c u = true := by
  have h : (match (generalizing := false) x with | .Compare y [o, o'] [z, u] _ => decide (o = cop op) && decide (o' = cop op') && notSet z && notSet u && isE N sc a y && isE N sc b z && isE N sc c u | _ => false) = true := h
  split at h
  · simp only [Bool.and_eq_true, decide_eq_true_eq] at h; obtain ⟨⟨⟨⟨⟨⟨rfl, rfl⟩, h0⟩, h0'⟩, h1⟩, h2⟩, h3⟩ := h; exact ⟨_, _, _, _, rfl, h0, h0', h1, h2, h3⟩
  · cases h
theorem inv_and {es : Es} {x : Expr} (h : isE N sc (.andV es) x = true) : ∃ xs p, x = .BoolOp .And xs p ∧ isEs N sc es xs = true := by
  have h : (match (generalizing := false) x with | .BoolOp .And xs _ => isEs N sc es xs | _ => false) = true := h
  split at h
  · exact ⟨_, _, rfl, h⟩
  · cases h
theorem inv_or {es : Es} {x : Expr} (h : isE N sc (.orV es) x = true) : ∃ xs p, x = .BoolOp .Or xs p ∧ isEs N sc es xs = true := by
  have h : (match (generalizing := false) x with | .BoolOp .Or xs _ => isEs N sc es xs | _ => false) = true := h
  split at h
  · exact ⟨_, _, rfl, h⟩
  · cases h
theorem inv_ite {t : Tst} {a b : E} {x : Expr} (h : isE N sc (.ite t a b) x = true) : ∃ c y z p, x = .IfExp c y z p ∧ isT N sc t c = true ∧ isE N sc a y = true ∧ isE N sc b z = true := by
  have h : (match (generalizing := false) x with | .IfExp c y z _ => isT N sc t c && isE N sc a y && isE N sc b z | _ => false) = true := h
  split at h
  · simp only [Bool.and_eq_true, decide_eq_true_eq] at h; obtain ⟨⟨h0, h1⟩, h2⟩ := h; exact ⟨_, _, _, _, rfl, h0, h1, h2⟩
  · cases h
theorem inv_ix {a i : E} {x : Expr} (h : isE N sc (.ix a i) x = true) : ∃ y z p, x = .Subscript y z p ∧ notSlice z = true ∧ isE N sc a y = true ∧ isE N sc i z = true := by
  have h : (match (generalizing := false) x with | .Subscript y z _ => notSlice z && (isE N sc a y && isE N sc i z) | _ => false) = true := h
  split at h
  · simp only [Bool.and_eq_true, decide_eq_true_eq] at h; exact ⟨_, _, _, rfl, h.1, h.2.1, h.2.2⟩
  · cases h
theorem inv_sl {a : E} {lo hi : Oe} {x : Expr} (h : isE N sc (.sl a lo hi) x = true) : ∃ y l u p q, x = .Subscript y (.Slice l u none p) q ∧ isE N sc a y = true ∧ isO N sc lo l = true ∧ isO N sc hi u = true := by
  have h : (match (generalizing := false) x with | .Subscript y (.Slice l u none _) _ => isE N sc a y && isO N sc lo l && isO N sc hi u | _ => false) = true := h
  split at h
  · simp only [Bool.and_eq_true, decide_eq_true_eq] at h; obtain ⟨⟨h0, h1⟩, h2⟩ := h; exact ⟨_, _, _, _, _, rfl, h0, h1, h2⟩
  · cases h
theorem inv_bi {b : Bi} {es : Es} {x : Expr} (h : isE N sc (.bi b es) x = true) : ∃ f p y ys q, x = .Call (.Name f p) (y :: ys) [] q ∧ f = biName b ∧ glB sc f = true ∧ isEs N sc es (y :: ys) = true := by
  have h : (match (generalizing := false) x with | .Call (.Name f _) (y :: ys) [] _ => decide (f = biName b) && glB sc f && isEs N sc es (y :: ys) | _ => false) = true := h
  split at h
  · simp only [Bool.and_eq_true, decide_eq_true_eq] at h; obtain ⟨⟨h0, h1⟩, h2⟩ := h; exact ⟨_, _, _, _, _, rfl, h0, h1, h2⟩
  · cases h
theorem inv_me {mm : Me} {o : E} {es : Es} {x : Expr} (h : isE N sc (.me mm o es) x = true) : ∃ z f apos y ys cpos, x = .Call (.Attribute z f apos) (y :: ys) [] cpos ∧ f = meName mm ∧ (apos.endLine == cpos.line) = true ∧ notCall0 z = true ∧ ys.length < 20 ∧ isE N sc o z = true ∧ isEs N sc es (y :: ys) = true := by
  have h : (match (generalizing := false) x with | .Call (.Attribute z f apos) (y :: ys) [] cpos => decide (f = meName mm) && ((apos.endLine == cpos.line) && (notCall0 z && (decide (ys.length < 20) && (isE N sc o z && isEs N sc es (y :: ys))))) | _ => false) = true := h
  split at h
  · simp only [Bool.and_eq_true, decide_eq_true_eq] at h; obtain ⟨h0, h1, h2, h3, h4, h5⟩ := h; exact ⟨_, _, _, _, _, _, rfl, h0, h1, h2, h3, h4, h5⟩
  · cases h
theorem inv_isi {a : E} {t : Ty} {x : Expr} (h : isE N sc (.isi a t) x = true) : ∃ f p y g q r, x = .Call (.Name f p) [y, .Name g q] [] r ∧ f = "isinstance" ∧ g = tyName t ∧ glB sc f = true ∧ glB sc g = true ∧ notStar y = true ∧ isE N sc a y = true := by
  have h : (match (generalizing := false) x with | .Call (.Name f _) [y, .Name g _] [] _ => decide (f = "isinstance") && decide (g = tyName t) && glB sc f && glB sc g && notStar y && isE N sc a y | _ => false) = true := h
  split at h
  · simp only [Bool.and_eq_true, decide_eq_true_eq] at h; obtain ⟨⟨⟨⟨⟨h0, h1⟩, h2⟩, h3⟩, h4⟩, h5⟩ := h; exact ⟨_, _, _, _, _, _, rfl, h0, h1, h2, h3, h4, h5⟩
  · cases h
theorem inv_call {f : Str} {es : Es} {x : Expr} (h : isE N sc (.call f es) x = true) : ∃ p y ys q, x = .Call (.Name f p) (y :: ys) [] q ∧ glB sc f = true ∧ isEs N sc es (y :: ys) = true := by
  have h : (match (generalizing := false) x with | .Call (.Name g _) (y :: ys) [] _ => decide (g = f) && glB sc f && isEs N sc es (y :: ys) | _ => false) = true := h
  split at h
  · simp only [Bool.and_eq_true, decide_eq_true_eq] at h; obtain ⟨⟨rfl, h1⟩, h2⟩ := h; exact ⟨_, _, _, _, rfl, h1, h2⟩
  · cases h
theorem inv_lc {own : List (Str × Nat)} {tg : Tg} {it : Itr} {ts : Tsts} {elt : E} {x : Expr} (h : isE N sc (.lc own tg it ts elt) x = true) : ∃ y t i ifs scope p, x = .ListComp y [⟨t, i, ifs, 0⟩] scope p ∧ enmOk it tg = true ∧ clauseB N own tg i ifs = true ∧ blkC N sc scope own = true ∧ isI N sc it i = true ∧ isTg N (relS scope sc) (blkSt scope) tg t = true ∧ isTs N (relS scope sc) ts ifs = true ∧ isE N (relS scope sc) elt y = true := by
  have h : (match (generalizing := false) x with | .ListComp y [⟨t, i, ifs, 0⟩] scope _ => enmOk it tg && clauseB N own tg i ifs && blkC N sc scope own && isI N sc it i && isTg N (relS scope sc) (blkSt scope) tg t && isTs N (relS scope sc) ts ifs && isE N (relS scope sc) elt y | _ => false) = true := h
  split at h
  · simp only [Bool.and_eq_true, decide_eq_true_eq] at h; obtain ⟨⟨⟨⟨⟨⟨h0, h1⟩, h2⟩, h3⟩, h4⟩, h5⟩, h6⟩ := h; exact ⟨_, _, _, _, _, _, rfl, h0, h1, h2, h3, h4, h5, h6⟩
  · cases h
theorem inv_sc {own : List (Str × Nat)} {tg : Tg} {it : Itr} {ts : Tsts} {elt : E} {x : Expr} (h : isE N sc (.sc own tg it ts elt) x = true) : ∃ y t i ifs scope p, x = .SetComp y [⟨t, i, ifs, 0⟩] scope p ∧ enmOk it tg = true ∧ clauseB N own tg i ifs = true ∧ blkC N sc scope own = true ∧ isI N sc it i = true ∧ isTg N (relS scope sc) (blkSt scope) tg t = true ∧ isTs N (relS scope sc) ts ifs = true ∧ isE N (relS scope sc) elt y = true := by
  have h : (match (generalizing := false) x with | .SetComp y [⟨t, i, ifs, 0⟩] scope _ => enmOk it tg && clauseB N own tg i ifs && blkC N sc scope own && isI N sc it i && isTg N (relS scope sc) (blkSt scope) tg t && isTs N (relS scope sc) ts ifs && isE N (relS scope sc) elt y | _ => false) = true := h
  split at h
  · simp only [Bool.and_eq_true, decide_eq_true_eq] at h; obtain ⟨⟨⟨⟨⟨⟨h0, h1⟩, h2⟩, h3⟩, h4⟩, h5⟩, h6⟩ := h; exact ⟨_, _, _, _, _, _, rfl, h0, h1, h2, h3, h4, h5, h6⟩
  · cases h
theorem inv_dc {own : List (Str × Nat)} {tg : Tg} {it : Itr} {ts : Tsts} {k v : E} {x : Expr} (h : isE N sc (.dc own tg it ts k v) x = true) : ∃ y z t i ifs scope p, x = .DictComp y z [⟨t, i, ifs, 0⟩] scope p ∧ enmOk it tg = true ∧ clauseB N own tg i ifs = true ∧ blkC N sc scope own = true ∧ isI N sc it i = true ∧ isTg N (relS scope sc) (blkSt scope) tg t = true ∧ isTs N (relS scope sc) ts ifs = true ∧ isE N (relS scope sc) k y = true ∧ isE N (relS scope sc) v z = true := by
  have h : (match (generalizing := false) x with | .DictComp y z [⟨t, i, ifs, 0⟩] scope _ => enmOk it tg && clauseB N own tg i ifs && blkC N sc scope own && isI N sc it i && isTg N (relS scope sc) (blkSt scope) tg t && isTs N (relS scope sc) ts ifs && isE N (relS scope sc) k y && isE N (relS scope sc) v z | _ => false) = true := h
  split at h
  · simp only [Bool.and_eq_true, decide_eq_true_eq] at h; obtain ⟨⟨⟨⟨⟨⟨⟨h0, h1⟩, h2⟩, h3⟩, h4⟩, h5⟩, h6⟩, h7⟩ := h; exact ⟨_, _, _, _, _, _, _, rfl, h0, h1, h2, h3, h4, h5, h6, h7⟩
  · cases h
theorem inv_cons {e : E} {r : Es} {l : List Expr} (h : isEs N sc (.cons e r) l = true) : ∃ x xs, l = x :: xs ∧ notStar x = true ∧ isE N sc e x = true ∧ isEs N sc r xs = true := by
  cases l with
  | nil => cases h
  | cons x xs =>
    have h : (notStar x && (isE N sc e x && isEs N sc r xs)) = true := h
    simp only [Bool.and_eq_true] at h
    exact ⟨x, xs, rfl, h.1, h.2.1, h.2.2⟩
theorem inv_nil {l : List Expr} (h : isEs N sc .nil l = true) : l = [] := by
  cases l with
  | nil => rfl
  | cons x xs => cases h
theorem inv_tcons {t : Tst} {r : Tsts} {l : List Expr} (h : isTs N sc (.cons t r) l = true) : ∃ x xs, l = x :: xs ∧ isT N sc t x = true ∧ isTs N sc r xs = true := by
  cases l with
  | nil => cases h
  | cons x xs =>
    have h : (isT N sc t x && isTs N sc r xs) = true := h
    simp only [Bool.and_eq_true] at h
    exact ⟨x, xs, rfl, h.1, h.2⟩
theorem inv_tnil {l : List Expr} (h : isTs N sc .nil l = true) : l = [] := by
  cases l with
  | nil => rfl
  | cons x xs => cases h
def tstX : Expr → Bool
  | .UnaryOp .Not _ _ | .BoolOp _ _ _ | .IfExp _ _ _ _ => false
  | _ => true
theorem inv_te {a : E} {x : Expr} (h : isT N sc (.e a) x = true) : isE N sc a x = true ∧ tstX x = true := by
  have h : (isE N sc a x && tstX x) = true := h
  rwa [Bool.and_eq_true] at h
theorem inv_tand {ts : Tsts} {x : Expr} (h : isT N sc (.and ts) x = true) : ∃ xs p, x = .BoolOp .And xs p ∧ isTs N sc ts xs = true ∧ 0 < xs.length := by
  have h : (match (generalizing := false) x with | .BoolOp .And xs _ => isTs N sc ts xs && decide (0 < xs.length) | _ => false) = true := h
  split at h
  · simp only [Bool.and_eq_true, decide_eq_true_eq] at h; exact ⟨_, _, rfl, h.1, h.2⟩
  · cases h
theorem inv_tor {ts : Tsts} {x : Expr} (h : isT N sc (.or ts) x = true) : ∃ xs p, x = .BoolOp .Or xs p ∧ isTs N sc ts xs = true ∧ 0 < xs.length := by
  have h : (match (generalizing := false) x with | .BoolOp .Or xs _ => isTs N sc ts xs && decide (0 < xs.length) | _ => false) = true := h
  split at h
  · simp only [Bool.and_eq_true, decide_eq_true_eq] at h; exact ⟨_, _, rfl, h.1, h.2⟩
  · cases h
theorem inv_tnot {t : Tst} {x : Expr} (h : isT N sc (.not t) x = true) : ∃ y p, x = .UnaryOp .Not y p ∧ isT N sc t y = true := by
  have h : (match (generalizing := false) x with | .UnaryOp .Not y _ => isT N sc t y | _ => false) = true := h
  split at h
  · exact ⟨_, _, rfl, h⟩
  · cases h
theorem inv_pl {a : E} {x : Expr} (h : isI N sc (.pl a) x = true) : isE N sc a x = true ∧ notSet x = true := by
  have h : (isE N sc a x && notSet x) = true := h
  rwa [Bool.and_eq_true] at h
theorem inv_rng1 {a : E} {x : Expr} (h : isI N sc (.rng1 a) x = true) : ∃ p y q, x = .Call (.Name "range" p) [y] [] q ∧ glB sc "range" = true ∧ notStar y = true ∧ isE N sc a y = true := by
  have h : (match (generalizing := false) x with | .Call (.Name f _) [y] [] _ => decide (f = "range") && glB sc f && notStar y && isE N sc a y | _ => false) = true := h
  split at h
  · simp only [Bool.and_eq_true, decide_eq_true_eq] at h; obtain ⟨⟨⟨rfl, h0⟩, h1⟩, h2⟩ := h; exact ⟨_, _, _, rfl, h0, h1, h2⟩
  · cases h
theorem inv_rng2 {a b : E} {x : Expr} (h : isI N sc (.rng2 a b) x = true) : ∃ p y z q, x = .Call (.Name "range" p) [y, z] [] q ∧ glB sc "range" = true ∧ notStar y = true ∧ notStar z = true ∧ isE N sc a y = true ∧ isE N sc b z = true := by
  have h : (match (generalizing := false) x with | .Call (.Name f _) [y, z] [] _ => decide (f = "range") && glB sc f && notStar y && notStar z && isE N sc a y && isE N sc b z | _ => false) = true := h
  split at h
  · simp only [Bool.and_eq_true, decide_eq_true_eq] at h; obtain ⟨⟨⟨⟨⟨rfl, h0⟩, h1⟩, h2⟩, h3⟩, h4⟩ := h; exact ⟨_, _, _, _, rfl, h0, h1, h2, h3, h4⟩
  · cases h
theorem inv_enm {a : E} {x : Expr} (h : isI N sc (.enm a) x = true) : ∃ p y q, x = .Call (.Name "enumerate" p) [y] [] q ∧ glB sc "enumerate" = true ∧ notStar y = true ∧ isE N sc a y = true := by
  have h : (match (generalizing := false) x with | .Call (.Name f _) [y] [] _ => decide (f = "enumerate") && glB sc f && notStar y && isE N sc a y | _ => false) = true := h
  split at h
  · simp only [Bool.and_eq_true, decide_eq_true_eq] at h; obtain ⟨⟨⟨rfl, h0⟩, h1⟩, h2⟩ := h; exact ⟨_, _, _, rfl, h0, h1, h2⟩
  · cases h
end
end Mini

set_option Elab.async false
set_option linter.all false
set_option maxRecDepth 100000
set_option maxHeartbeats 4000000
namespace Mini
open PySem PySem.Spec PyProof.Rows L2
theorem fset_of {i : Expr} {env : PySem.Env} (h : notSet i = true) (x : Value) : foldedSetIterable i env x = pure x := by
  unfold foldedSetIterable
  cases i <;> first | rfl | cases h
theorem tst_true {x : Expr} {env : PySem.Env} (h : tstX x = true) (hc : ∀ a b c p, x ≠ .Compare a b c p) : ∀ whole, isTrue x env whole = (do let v ← whole; standAt x.pos; holding [v] (truthy v)) := by
  intro whole
  cases x <;> first | rfl | (exact absurd rfl (hc _ _ _ _)) | (cases h; done) | skip
  · rename_i op a p
    cases op <;> first | rfl | cases h
theorem lm_of {op op' : COp} {y z : Expr} (hz : notSet z = true) : lastMarks [cop op, cop op'] [y, z] = false := by
  show behindInMarks (cop op') z = false
  cases z <;> first | rfl | cases hz
theorem bm_of {op : COp} {z : Expr} (hz : notSet z = true) : behindInMarks (cop op) z = false := by
  cases z <;> first | rfl | cases hz
/-- nothing comes of it -/
def nevE : E → Bool
  | .never | .lc2 .. | .sc2 .. | .dic .. | .fld .. => true
  | _ => false
theorem enm_tup {N : List Str} {sc : Scope} {st : Str → Bool} {a : E} {tg : Tg} {t : Expr} (he : enmOk (.enm a) tg = true) (ht : isTg N sc st tg t = true) : ∃ es kk p, t = .Tuple es kk p := by
  cases tg with
  | tp2 a b =>
    cases t with
    | Tuple es kk p => exact ⟨_, _, _, rfl⟩
    | _ => cases ht
  | _ => cases he
theorem pt_of {X : Cx} {e : Expr} {t : TT} (h : PW X e t) : PT X e t := ⟨fun pins s σ H Q I q => h.run (eval e X.env) pins s σ H Q I q⟩
theorem te_gen {Γ : Env} {xcl : Str → Option Addr} {fx : Fx} {N : List Str} {a : E} {x : Expr} {X : Cx} {W : WX} {sc : Scope} (h : isE N sc a x = true) (ht : tstX x = true) (hE : PE X x (tE (cfg X Γ xcl fx) W a false)) (hn : ∀ op b c, a ≠ .cmp op b c) (hn2 : ∀ op op' b c d, a ≠ .cmp2 op op' b c d) : PT X x (tT (cfg X Γ xcl fx) W (.e a)) := by
  by_cases hc : ∃ y b c p, x = .Compare y b c p
  · obtain ⟨y, os, zs, p, rfl⟩ := hc
    cases a with
    | cmp op b c => exact absurd rfl (hn op b c)
    | cmp2 op op' b c d => exact absurd rfl (hn2 op op' b c d)
    | never => exact pt_false fun _ _ _ ⟨_, _, q⟩ => q
    | lc2 => exact pt_false fun _ _ _ ⟨_, _, q⟩ => q
    | sc2 => exact pt_false fun _ _ _ ⟨_, _, q⟩ => q
    | rev => exact pt_false fun _ _ _ ⟨_, _, q⟩ => q
    | dic ks vs =>
      match ks, vs, h with
      | .nil, .nil, h => cases h
      | .cons _ .nil, .cons _ .nil, h => cases h
      | .nil, .cons _ _, _ => exact pt_false fun _ _ _ ⟨_, _, q⟩ => q
      | .cons _ .nil, .nil, _ => exact pt_false fun _ _ _ ⟨_, _, q⟩ => q
      | .cons _ .nil, .cons _ (.cons _ _), _ => exact pt_false fun _ _ _ ⟨_, _, q⟩ => q
      | .cons _ (.cons _ _), _, _ => exact pt_false fun _ _ _ ⟨_, _, q⟩ => q
    | _ => cases h
  · exact t_val hE (tst_true ht fun a b c p z => hc ⟨a, b, c, p, z⟩)
section
variable (Γ : Env) (xcl : Str → Option Addr) (fx : Fx) (N : List Str)
mutual
theorem soundE : ∀ (e : E) {x : Expr} {X : Cx} {W : WX} {sc : Scope} {st : Str → Bool} {k : Nat} {m : Bool}, XOk Γ xcl W N sc st k X → isE N sc e x = true → PE X x (tE (cfg X Γ xcl fx) W e m)
  | .var i n, _, _, _, _, _, _, _, ok, h => by obtain ⟨p, rfl, h'⟩ := inv_var h; exact s_var ok h'
  | .int n, _, _, _, _, _, _, _, ok, h => by obtain ⟨j, p, rfl⟩ := inv_int h; exact s_int
  | .str n, _, _, _, _, _, _, _, ok, h => by obtain ⟨j, p, rfl⟩ := inv_str h; exact s_str
  | .bl n, _, _, _, _, _, _, _, ok, h => by obtain ⟨j, p, rfl⟩ := inv_bl h; exact s_bl
  | .non, _, _, _, _, _, _, _, ok, h => by obtain ⟨j, p, rfl⟩ := inv_non h; exact s_non
  | .glob n, _, _, _, _, _, _, _, ok, h => by obtain ⟨p, rfl, h'⟩ := inv_glob h; exact s_glob ok h'
  | .tup es, _, _, _, _, _, _, _, ok, h => by obtain ⟨xs, j, p, rfl, h'⟩ := inv_tup h; exact s_tup (soundA es ok h')
  | .lst es, _, _, _, _, _, _, _, ok, h => by obtain ⟨xs, p, rfl, h'⟩ := inv_lst h; exact s_lst (soundA es ok h')
  | .dic .nil .nil, _, _, _, _, _, _, _, ok, h => by obtain ⟨p, rfl⟩ := inv_dic0 h; exact s_dic0
  | .dic (.cons k .nil) (.cons v .nil), _, _, _, _, _, _, _, ok, h => by
    obtain ⟨a, b, p, rfl, h1, h2⟩ := inv_dic1 h
    exact s_dic1 (by have := ok.room.un; omega) (soundE k ok h1) (soundE v ok h2)
  | .dic .nil (.cons _ _), _, _, _, _, _, _, _, ok, h => pe_false fun _ _ _ ⟨_, _, q⟩ => q
  | .dic (.cons _ .nil) .nil, _, _, _, _, _, _, _, ok, h => pe_false fun _ _ _ ⟨_, _, q⟩ => q
  | .dic (.cons _ .nil) (.cons _ (.cons _ _)), _, _, _, _, _, _, _, ok, h => pe_false fun _ _ _ ⟨_, _, q⟩ => q
  | .dic (.cons _ (.cons _ _)) _, _, _, _, _, _, _, _, ok, h => pe_false fun _ _ _ ⟨_, _, q⟩ => q
  | .bin op a b, _, _, _, _, _, _, _, ok, h => by obtain ⟨y, z, p, rfl, h1, h2⟩ := inv_bin h; exact s_bin (soundE a ok h1) (soundE b ok h2)
  | .neg a, _, _, _, _, _, _, _, ok, h => by obtain ⟨y, p, rfl, h'⟩ := inv_neg h; exact s_neg (soundE a ok h')
  | .not a, _, _, _, _, _, _, _, ok, h => by obtain ⟨y, p, rfl, h'⟩ := inv_not h; exact s_not (soundE a ok h')
  | .cmp op a b, _, _, _, _, _, _, _, ok, h => by
    obtain ⟨y, z, p, rfl, h0, h1, h2⟩ := inv_cmp h
    exact s_cmp (by have := ok.room.un; omega) (bm_of h0) (soundE a ok h1) (soundE b ok h2)
  | .cmp2 op op' a b c, _, _, _, _, _, _, _, ok, h => by
    obtain ⟨y, z, u, p, rfl, h0, h0', h1, h2, h3⟩ := inv_cmp2 h
    exact s_cmp2 (by have := ok.room.un; omega) (lm_of h0') (soundE a ok h1) (soundE b ok h2) (soundE c ok h3)
  | .andV es, _, _, _, _, _, _, _, ok, h => by obtain ⟨xs, p, rfl, h'⟩ := inv_and h; exact soundAnd es ok h'
  | .orV es, _, _, _, _, _, _, _, ok, h => by obtain ⟨xs, p, rfl, h'⟩ := inv_or h; exact soundOr es ok h'
  | .ite t a b, _, _, _, _, _, _, _, ok, h => by obtain ⟨c, y, z, p, rfl, h0, h1, h2⟩ := inv_ite h; exact s_ite (soundT t ok h0) (soundE a ok h1) (soundE b ok h2)
  | .ix a i, _, _, _, _, _, _, _, ok, h => by obtain ⟨y, z, p, rfl, h0, h1, h2⟩ := inv_ix h; exact s_ix (by have := ok.room.un; omega) h0 (soundE a ok h1) (soundE i ok h2)
  | .sl a lo hi, _, _, _, _, _, _, _, ok, h => by obtain ⟨y, l, u, p, q, rfl, h0, h1, h2⟩ := inv_sl h; exact s_sl (soundE a ok h0) (soundO lo ok h1) (soundO hi ok h2)
  | .rev a, _, _, _, _, _, _, _, ok, h => pe_false fun _ _ _ ⟨_, _, q⟩ => q
  | .bi b es, _, _, _, _, _, _, _, ok, h => by obtain ⟨f, p, y, ys, q, rfl, h0, h1, h2⟩ := inv_bi h; exact s_bi ok h0 h1 h2 (soundL es ok h2)
  | .me mm o es, _, _, _, _, _, _, _, ok, h => by
    obtain ⟨z, f, apos, y, ys, cpos, rfl, h0, h1, h2, h3, h4, h5⟩ := inv_me h
    exact s_me ok h0 h1 h2 h3 h5 (soundE o ok h4) (soundL es ok h5)
  | .isi a t, _, _, _, _, _, _, _, ok, h => by obtain ⟨f, p, y, g, q, r, rfl, h0, h1, h2, h3, h4, h5⟩ := inv_isi h; exact s_isi ok h0 h1 h2 h3 h4 (soundE a ok h5)
  | .call f es, _, _, _, _, _, _, _, ok, h => by obtain ⟨p, y, ys, q, rfl, h1, h2⟩ := inv_call h; exact s_call ok h1 h2 (soundA es ok h2)
  | .lc own tg it ts elt, _, _, _, _, _, _, _, ok, h => by
    obtain ⟨y, t, i, ifs, scope, p, rfl, h0, h1, h2, h3, h4, h5, h6⟩ := inv_lc h
    exact (s_lc ok h1 h2 (soundI it ok h0 h4 h3) (fun s H C cl fp => s_tg (ok.blk s H C cl fp) h4) (fun s H C cl fp => soundTs ts (ok.blk s H C cl fp) h5 (clause_of h1).few) fun s H C cl fp => soundE elt (ok.blk s H C cl fp) h6).pe
  | .lc2 .., _, _, _, _, _, _, _, ok, h => pe_false fun _ _ _ ⟨_, _, q⟩ => q
  | .sc own tg it ts elt, _, _, _, _, _, _, _, ok, h => by
    obtain ⟨y, t, i, ifs, scope, p, rfl, h0, h1, h2, h3, h4, h5, h6⟩ := inv_sc h
    exact (s_sc ok h1 h2 (soundI it ok h0 h4 h3) (fun s H C cl fp => s_tg (ok.blk s H C cl fp) h4) (fun s H C cl fp => soundTs ts (ok.blk s H C cl fp) h5 (clause_of h1).few) fun s H C cl fp => soundE elt (ok.blk s H C cl fp) h6).pe
  | .sc2 .., _, _, _, _, _, _, _, ok, h => pe_false fun _ _ _ ⟨_, _, q⟩ => q
  | .dc own tg it ts k v, _, _, _, _, _, _, _, ok, h => by
    obtain ⟨y, z, t, i, ifs, scope, p, rfl, h0, h1, h2, h3, h4, h5, h6, h7⟩ := inv_dc h
    exact (s_dc ok h1 h2 (soundI it ok h0 h4 h3) (fun s H C cl fp => s_tg (ok.blk s H C cl fp) h4) (fun s H C cl fp => soundTs ts (ok.blk s H C cl fp) h5 (clause_of h1).few) (fun s H C cl fp => soundE k (ok.blk s H C cl fp) h6) fun s H C cl fp => soundE v (ok.blk s H C cl fp) h7).pe
  | .fld i n f, _, _, _, _, _, _, _, ok, h => s_fld
  | .never, _, _, _, _, _, _, _, ok, h => pe_false fun _ _ _ ⟨_, _, q⟩ => q
theorem soundA : ∀ (es : Es) {xs : List Expr} {X : Cx} {W : WX} {sc : Scope} {st : Str → Bool} {k : Nat}, XOk Γ xcl W N sc st k X → isEs N sc es xs = true → PA X xs (tArgs (cfg X Γ xcl fx) W es)
  | .nil, _, _, _, _, _, _, ok, h => by rw [inv_nil h]; exact s_nil
  | .cons e r, _, _, _, _, _, _, ok, h => by obtain ⟨x, xs, rfl, h0, h1, h2⟩ := inv_cons h; exact s_cons h0 (soundE e ok h1) (soundA r ok h2)
theorem soundL : ∀ (es : Es) {xs : List Expr} {X : Cx} {W : WX} {sc : Scope} {st : Str → Bool} {k : Nat}, XOk Γ xcl W N sc st k X → isEs N sc es xs = true → PA X xs (tLook (cfg X Γ xcl fx) W es)
  | .nil, _, _, _, _, _, _, ok, h => by rw [inv_nil h]; exact l_nil
  | .cons e r, _, _, _, _, _, _, ok, h => by obtain ⟨x, xs, rfl, h0, h1, h2⟩ := inv_cons h; exact l_cons h0 (soundE e ok h1) (soundL r ok h2)
theorem soundAnd : ∀ (es : Es) {xs : List Expr} {X : Cx} {W : WX} {sc : Scope} {st : Str → Bool} {k : Nat} {m : Bool} {pos : Pos}, XOk Γ xcl W N sc st k X → isEs N sc es xs = true → PE X (.BoolOp .And xs pos) (tE (cfg X Γ xcl fx) W (.andV es) m)
  | .nil, _, _, _, _, _, _, _, _, ok, h => pe_false fun _ _ _ ⟨_, _, q⟩ => q
  | .cons e .nil, _, _, _, _, _, _, _, _, ok, h => by
    obtain ⟨x, xs, rfl, h0, h1, h2⟩ := inv_cons h
    rw [inv_nil h2]
    exact s_and1 (soundE e ok h1)
  | .cons e (.cons e' r), _, _, _, _, _, _, _, _, ok, h => by
    obtain ⟨x, xs, rfl, h0, h1, h2⟩ := inv_cons h
    have h3 := fun (mm : Bool) (pp : Pos) => soundAnd (.cons e' r) (m := mm) (pos := pp) ok h2
    obtain ⟨y, ys, rfl, _, _, _⟩ := inv_cons h2
    exact s_and (soundE e ok h1) (h3 _ _)
theorem soundOr : ∀ (es : Es) {xs : List Expr} {X : Cx} {W : WX} {sc : Scope} {st : Str → Bool} {k : Nat} {m : Bool} {pos : Pos}, XOk Γ xcl W N sc st k X → isEs N sc es xs = true → PE X (.BoolOp .Or xs pos) (tE (cfg X Γ xcl fx) W (.orV es) m)
  | .nil, _, _, _, _, _, _, _, _, ok, h => pe_false fun _ _ _ ⟨_, _, q⟩ => q
  | .cons e .nil, _, _, _, _, _, _, _, _, ok, h => by
    obtain ⟨x, xs, rfl, h0, h1, h2⟩ := inv_cons h
    rw [inv_nil h2]
    exact s_or1 (soundE e ok h1)
  | .cons e (.cons e' r), _, _, _, _, _, _, _, _, ok, h => by
    obtain ⟨x, xs, rfl, h0, h1, h2⟩ := inv_cons h
    have h3 := fun (mm : Bool) (pp : Pos) => soundOr (.cons e' r) (m := mm) (pos := pp) ok h2
    obtain ⟨y, ys, rfl, _, _, _⟩ := inv_cons h2
    exact s_or (soundE e ok h1) (h3 _ _)
theorem soundO : ∀ (o : Oe) {x : Option Expr} {X : Cx} {W : WX} {sc : Scope} {st : Str → Bool} {k : Nat}, XOk Γ xcl W N sc st k X → isO N sc o x = true → PO X x (tO (cfg X Γ xcl fx) W o)
  | .none, x, _, _, _, _, _, ok, h => by
    cases x with
    | none => exact o_none
    | some x => cases h
  | .some e, x, _, _, _, _, _, ok, h => by
    cases x with
    | none => cases h
    | some x => exact o_some (soundE e ok h)
theorem soundT : ∀ (t : Tst) {x : Expr} {X : Cx} {W : WX} {sc : Scope} {st : Str → Bool} {k : Nat}, XOk Γ xcl W N sc st k X → isT N sc t x = true → PT X x (tT (cfg X Γ xcl fx) W t)
  | .e (.cmp op a b), _, _, _, _, _, _, ok, h => by
    obtain ⟨y, z, p, rfl, h0, h1, h2⟩ := inv_cmp (inv_te h).1
    exact t_cmp (by have := ok.room.un; omega) (bm_of h0) (soundE a ok h1) (soundE b ok h2)
  | .e (.cmp2 op op' a b c), _, _, _, _, _, _, ok, h => by
    obtain ⟨y, z, u, p, rfl, h0, h0', h1, h2, h3⟩ := inv_cmp2 (inv_te h).1
    exact t_cmp2 (by have := ok.room.un; omega) (lm_of h0') (soundE a ok h1) (soundE b ok h2) (soundE c ok h3)
  | .e (.var i n), _, _, _, _, _, _, ok, h => te_gen (inv_te h).1 (inv_te h).2 (soundE (.var i n) ok (inv_te h).1) (fun _ _ _ z => nomatch z) (fun _ _ _ _ _ z => nomatch z)
  | .e (.int n), _, _, _, _, _, _, ok, h => te_gen (inv_te h).1 (inv_te h).2 (soundE (.int n) ok (inv_te h).1) (fun _ _ _ z => nomatch z) (fun _ _ _ _ _ z => nomatch z)
  | .e (.str n), _, _, _, _, _, _, ok, h => te_gen (inv_te h).1 (inv_te h).2 (soundE (.str n) ok (inv_te h).1) (fun _ _ _ z => nomatch z) (fun _ _ _ _ _ z => nomatch z)
  | .e (.bl n), _, _, _, _, _, _, ok, h => te_gen (inv_te h).1 (inv_te h).2 (soundE (.bl n) ok (inv_te h).1) (fun _ _ _ z => nomatch z) (fun _ _ _ _ _ z => nomatch z)
  | .e (.non), _, _, _, _, _, _, ok, h => te_gen (inv_te h).1 (inv_te h).2 (soundE (.non) ok (inv_te h).1) (fun _ _ _ z => nomatch z) (fun _ _ _ _ _ z => nomatch z)
  | .e (.glob n), _, _, _, _, _, _, ok, h => te_gen (inv_te h).1 (inv_te h).2 (soundE (.glob n) ok (inv_te h).1) (fun _ _ _ z => nomatch z) (fun _ _ _ _ _ z => nomatch z)
  | .e (.tup es), _, _, _, _, _, _, ok, h => te_gen (inv_te h).1 (inv_te h).2 (soundE (.tup es) ok (inv_te h).1) (fun _ _ _ z => nomatch z) (fun _ _ _ _ _ z => nomatch z)
  | .e (.lst es), _, _, _, _, _, _, ok, h => te_gen (inv_te h).1 (inv_te h).2 (soundE (.lst es) ok (inv_te h).1) (fun _ _ _ z => nomatch z) (fun _ _ _ _ _ z => nomatch z)
  | .e (.dic ks vs), _, _, _, _, _, _, ok, h => te_gen (inv_te h).1 (inv_te h).2 (soundE (.dic ks vs) ok (inv_te h).1) (fun _ _ _ z => nomatch z) (fun _ _ _ _ _ z => nomatch z)
  | .e (.bin op a b), _, _, _, _, _, _, ok, h => te_gen (inv_te h).1 (inv_te h).2 (soundE (.bin op a b) ok (inv_te h).1) (fun _ _ _ z => nomatch z) (fun _ _ _ _ _ z => nomatch z)
  | .e (.neg a), _, _, _, _, _, _, ok, h => te_gen (inv_te h).1 (inv_te h).2 (soundE (.neg a) ok (inv_te h).1) (fun _ _ _ z => nomatch z) (fun _ _ _ _ _ z => nomatch z)
  | .e (.not a), _, _, _, _, _, _, ok, h => te_gen (inv_te h).1 (inv_te h).2 (soundE (.not a) ok (inv_te h).1) (fun _ _ _ z => nomatch z) (fun _ _ _ _ _ z => nomatch z)
  | .e (.andV es), _, _, _, _, _, _, ok, h => te_gen (inv_te h).1 (inv_te h).2 (soundE (.andV es) ok (inv_te h).1) (fun _ _ _ z => nomatch z) (fun _ _ _ _ _ z => nomatch z)
  | .e (.orV es), _, _, _, _, _, _, ok, h => te_gen (inv_te h).1 (inv_te h).2 (soundE (.orV es) ok (inv_te h).1) (fun _ _ _ z => nomatch z) (fun _ _ _ _ _ z => nomatch z)
  | .e (.ite t a b), _, _, _, _, _, _, ok, h => te_gen (inv_te h).1 (inv_te h).2 (soundE (.ite t a b) ok (inv_te h).1) (fun _ _ _ z => nomatch z) (fun _ _ _ _ _ z => nomatch z)
  | .e (.ix a i), _, _, _, _, _, _, ok, h => te_gen (inv_te h).1 (inv_te h).2 (soundE (.ix a i) ok (inv_te h).1) (fun _ _ _ z => nomatch z) (fun _ _ _ _ _ z => nomatch z)
  | .e (.sl a lo hi), _, _, _, _, _, _, ok, h => te_gen (inv_te h).1 (inv_te h).2 (soundE (.sl a lo hi) ok (inv_te h).1) (fun _ _ _ z => nomatch z) (fun _ _ _ _ _ z => nomatch z)
  | .e (.rev a), _, _, _, _, _, _, ok, h => te_gen (inv_te h).1 (inv_te h).2 (soundE (.rev a) ok (inv_te h).1) (fun _ _ _ z => nomatch z) (fun _ _ _ _ _ z => nomatch z)
  | .e (.bi b es), _, _, _, _, _, _, ok, h => te_gen (inv_te h).1 (inv_te h).2 (soundE (.bi b es) ok (inv_te h).1) (fun _ _ _ z => nomatch z) (fun _ _ _ _ _ z => nomatch z)
  | .e (.me mm o es), _, _, _, _, _, _, ok, h => te_gen (inv_te h).1 (inv_te h).2 (soundE (.me mm o es) ok (inv_te h).1) (fun _ _ _ z => nomatch z) (fun _ _ _ _ _ z => nomatch z)
  | .e (.isi a t), _, _, _, _, _, _, ok, h => te_gen (inv_te h).1 (inv_te h).2 (soundE (.isi a t) ok (inv_te h).1) (fun _ _ _ z => nomatch z) (fun _ _ _ _ _ z => nomatch z)
  | .e (.call f es), _, _, _, _, _, _, ok, h => te_gen (inv_te h).1 (inv_te h).2 (soundE (.call f es) ok (inv_te h).1) (fun _ _ _ z => nomatch z) (fun _ _ _ _ _ z => nomatch z)
  | .e (.lc own tg it ts elt), _, _, _, _, _, _, ok, h => te_gen (inv_te h).1 (inv_te h).2 (soundE (.lc own tg it ts elt) ok (inv_te h).1) (fun _ _ _ z => nomatch z) (fun _ _ _ _ _ z => nomatch z)
  | .e (.lc2 o1 o2 o3 o4 o5 o6 o7 o8 o9), _, _, _, _, _, _, ok, h => te_gen (inv_te h).1 (inv_te h).2 (soundE (.lc2 o1 o2 o3 o4 o5 o6 o7 o8 o9) ok (inv_te h).1) (fun _ _ _ z => nomatch z) (fun _ _ _ _ _ z => nomatch z)
  | .e (.sc own tg it ts elt), _, _, _, _, _, _, ok, h => te_gen (inv_te h).1 (inv_te h).2 (soundE (.sc own tg it ts elt) ok (inv_te h).1) (fun _ _ _ z => nomatch z) (fun _ _ _ _ _ z => nomatch z)
  | .e (.sc2 o1 o2 o3 o4 o5 o6 o7 o8 o9), _, _, _, _, _, _, ok, h => te_gen (inv_te h).1 (inv_te h).2 (soundE (.sc2 o1 o2 o3 o4 o5 o6 o7 o8 o9) ok (inv_te h).1) (fun _ _ _ z => nomatch z) (fun _ _ _ _ _ z => nomatch z)
  | .e (.dc own tg it ts k v), _, _, _, _, _, _, ok, h => te_gen (inv_te h).1 (inv_te h).2 (soundE (.dc own tg it ts k v) ok (inv_te h).1) (fun _ _ _ z => nomatch z) (fun _ _ _ _ _ z => nomatch z)
  | .e (.fld i n f), _, _, _, _, _, _, ok, h => te_gen (inv_te h).1 (inv_te h).2 (soundE (.fld i n f) ok (inv_te h).1) (fun _ _ _ z => nomatch z) (fun _ _ _ _ _ z => nomatch z)
  | .e (.never), _, _, _, _, _, _, ok, h => te_gen (inv_te h).1 (inv_te h).2 (soundE (.never) ok (inv_te h).1) (fun _ _ _ z => nomatch z) (fun _ _ _ _ _ z => nomatch z)
  | .and ts, _, _, _, _, _, _, ok, h => by obtain ⟨xs, p, rfl, h1, h2⟩ := inv_tand h; exact pt_of (soundTand ts ok h1 h2)
  | .or ts, _, _, _, _, _, _, ok, h => by obtain ⟨xs, p, rfl, h1, h2⟩ := inv_tor h; exact pt_of (soundTor ts ok h1 h2)
  | .not t, _, _, _, _, _, _, ok, h => by obtain ⟨y, p, rfl, h'⟩ := inv_tnot h; exact t_not (soundT t ok h')
theorem soundTand : ∀ (ts : Tsts) {xs : List Expr} {X : Cx} {W : WX} {sc : Scope} {st : Str → Bool} {k : Nat} {pos : Pos}, XOk Γ xcl W N sc st k X → isTs N sc ts xs = true → 0 < xs.length → PW X (.BoolOp .And xs pos) (tT (cfg X Γ xcl fx) W (.and ts))
  | .nil, _, _, _, _, _, _, _, ok, h, hl => by rw [inv_tnil h] at hl; exact absurd hl (by decide)
  | .cons t .nil, _, _, _, _, _, _, _, ok, h, hl => by
    obtain ⟨x, xs, rfl, h1, h2⟩ := inv_tcons h
    rw [inv_tnil h2]
    exact t_and1 (soundT t ok h1)
  | .cons t (.cons t' r), _, _, _, _, _, _, _, ok, h, hl => by
    obtain ⟨x, xs, rfl, h1, h2⟩ := inv_tcons h
    have h3 := fun (pp : Pos) hl => soundTand (.cons t' r) (pos := pp) ok h2 hl
    obtain ⟨y, ys, rfl, _, _⟩ := inv_tcons h2
    exact t_and (soundT t ok h1) (h3 _ (by simp))
theorem soundTor : ∀ (ts : Tsts) {xs : List Expr} {X : Cx} {W : WX} {sc : Scope} {st : Str → Bool} {k : Nat} {pos : Pos}, XOk Γ xcl W N sc st k X → isTs N sc ts xs = true → 0 < xs.length → PW X (.BoolOp .Or xs pos) (tT (cfg X Γ xcl fx) W (.or ts))
  | .nil, _, _, _, _, _, _, _, ok, h, hl => by rw [inv_tnil h] at hl; exact absurd hl (by decide)
  | .cons t .nil, _, _, _, _, _, _, _, ok, h, hl => by
    obtain ⟨x, xs, rfl, h1, h2⟩ := inv_tcons h
    rw [inv_tnil h2]
    exact t_or1 (soundT t ok h1)
  | .cons t (.cons t' r), _, _, _, _, _, _, _, ok, h, hl => by
    obtain ⟨x, xs, rfl, h1, h2⟩ := inv_tcons h
    have h3 := fun (pp : Pos) hl => soundTor (.cons t' r) (pos := pp) ok h2 hl
    obtain ⟨y, ys, rfl, _, _⟩ := inv_tcons h2
    exact t_or (soundT t ok h1) (h3 _ (by simp))
theorem soundTs : ∀ (ts : Tsts) {xs : List Expr} {X : Cx} {W : WX} {sc : Scope} {st : Str → Bool} {k : Nat}, XOk Γ xcl W N sc st k X → isTs N sc ts xs = true → xs.length ≤ 1 → PTs X xs (tTs (cfg X Γ xcl fx) W ts)
  | .nil, _, _, _, _, _, _, ok, h, hl => by rw [inv_tnil h]; exact s_ts0
  | .cons t .nil, _, _, _, _, _, _, ok, h, hl => by
    obtain ⟨x, xs, rfl, h1, h2⟩ := inv_tcons h
    rw [inv_tnil h2]
    exact s_ts1 (soundT t ok h1)
  | .cons t (.cons t' r), _, _, _, _, _, _, ok, h, hl => by
    obtain ⟨x, xs, rfl, h1, h2⟩ := inv_tcons h
    obtain ⟨y, ys, rfl, _, _⟩ := inv_tcons h2
    simp at hl
theorem soundI : ∀ (it : Itr) {tg : Tg} {t i : Expr} {X : Cx} {W : WX} {sc sc' : Scope} {st st' : Str → Bool} {k : Nat}, XOk Γ xcl W N sc st k X → enmOk it tg = true → isTg N sc' st' tg t = true → isI N sc it i = true → PI X t i (tI (cfg X Γ xcl fx) W it)
  | .pl a, _, _, _, _, _, _, _, _, _, _, ok, _, _, h => i_pl (soundE a ok (inv_pl h).1)
  | .rng1 a, _, _, _, _, _, _, _, _, _, _, ok, _, _, h => by obtain ⟨p, y, q, rfl, h0, h1, h2⟩ := inv_rng1 h; exact i_rng1 ok h0 h1 (soundE a ok h2)
  | .rng2 a b, _, _, _, _, _, _, _, _, _, _, ok, _, _, h => by obtain ⟨p, y, z, q, rfl, h0, h1, h2, h3, h4⟩ := inv_rng2 h; exact i_rng2 ok h0 h1 h2 (soundE a ok h3) (soundE b ok h4)
  | .enm a, _, _, _, _, _, _, _, _, _, _, ok, he, ht, h => by
    obtain ⟨p, y, q, rfl, h0, h1, h2⟩ := inv_enm h
    obtain ⟨es, kk, tp, rfl⟩ := enm_tup he ht
    exact i_enm ok h0 h1 (soundE a ok h2)
  | .zip _ _, _, _, _, _, _, _, _, _, _, _, ok, _, _, h => pi_false fun _ _ _ ⟨_, _, q⟩ => q
  | .items _, _, _, _, _, _, _, _, _, _, _, ok, _, _, h => pi_false fun _ _ _ ⟨_, _, q⟩ => q
  | .vals _, _, _, _, _, _, _, _, _, _, _, ok, _, _, h => pi_false fun _ _ _ ⟨_, _, q⟩ => q
end
/-- comprehensions, also stored at once -/
theorem soundC {e : E} {x : Expr} {X : Cx} {W : WX} {sc : Scope} {st : Str → Bool} {k : Nat} {m : Bool} (ok : XOk Γ xcl W N sc st k X) (h : isE N sc e x = true) (hx : noComp x = false) (hn : nevE e = false) : PEA X x (tE (cfg X Γ xcl fx) W e m) := by
  cases e with
  | lc own tg it ts elt =>
    obtain ⟨y, t, i, ifs, scope, p, rfl, h0, h1, h2, h3, h4, h5, h6⟩ := inv_lc h
    exact s_lc ok h1 h2 (soundI Γ xcl fx N it ok h0 h4 h3) (fun s H C cl fp => s_tg (ok.blk s H C cl fp) h4) (fun s H C cl fp => soundTs Γ xcl fx N ts (ok.blk s H C cl fp) h5 (clause_of h1).few) fun s H C cl fp => soundE Γ xcl fx N elt (ok.blk s H C cl fp) h6
  | sc own tg it ts elt =>
    obtain ⟨y, t, i, ifs, scope, p, rfl, h0, h1, h2, h3, h4, h5, h6⟩ := inv_sc h
    exact s_sc ok h1 h2 (soundI Γ xcl fx N it ok h0 h4 h3) (fun s H C cl fp => s_tg (ok.blk s H C cl fp) h4) (fun s H C cl fp => soundTs Γ xcl fx N ts (ok.blk s H C cl fp) h5 (clause_of h1).few) fun s H C cl fp => soundE Γ xcl fx N elt (ok.blk s H C cl fp) h6
  | dc own tg it ts k v =>
    obtain ⟨y, z, t, i, ifs, scope, p, rfl, h0, h1, h2, h3, h4, h5, h6, h7⟩ := inv_dc h
    exact s_dc ok h1 h2 (soundI Γ xcl fx N it ok h0 h4 h3) (fun s H C cl fp => s_tg (ok.blk s H C cl fp) h4) (fun s H C cl fp => soundTs Γ xcl fx N ts (ok.blk s H C cl fp) h5 (clause_of h1).few) (fun s H C cl fp => soundE Γ xcl fx N k (ok.blk s H C cl fp) h6) fun s H C cl fp => soundE Γ xcl fx N v (ok.blk s H C cl fp) h7
  | _ => first | (cases hn; done) | (exfalso; cases x <;> first | (cases hx; done) | (cases h; done))
end
end Mini

set_option Elab.async false
set_option linter.all false
set_option maxRecDepth 100000
set_option maxHeartbeats 4000000
namespace Mini
open PySem PySem.Spec PyProof.Rows L2
/-! ### statements: the check and its soundness -/
def asgB (tg : Tg) (e : E) (v : Expr) : Bool := match tg with
  | .nm _ _ => noComp v || !nevE e
  | _ => noTup v
def swOk (sc : Scope) (ts vs : List Expr) (ns : List Str) : Bool := match swB sc ts vs with
  | some none => true
  | some (some l) => decide (l = ns) && ns.all fun x => sc.names.lookup x == some .local
  | none => false
def parB (N : List Str) (sc : Scope) (st : Str → Bool) (tg : Tg) (ts vs : List Expr) : Bool := match tg, ts, vs with
  | .tp2 (.nm i x) (.nm j y), [.Name x' _, .Name y' _], [_, _] => decide (x' = x) && decide (y' = y) && locB N sc st i x && locB N sc st j y && decide (i ≠ j) && swOk sc ts vs [x, y]
  | .tp3 (.nm i x) (.nm j y) (.nm l z), [.Name x' _, .Name y' _, .Name z' _], [_, _, _] => decide (x' = x) && decide (y' = y) && decide (z' = z) && locB N sc st i x && locB N sc st j y && locB N sc st l z && decide (i ≠ j) && decide (i ≠ l) && decide (j ≠ l) && swOk sc ts vs [x, y, z]
  | .tp4 (.nm i x) (.nm j y) (.nm l z) (.nm n u), [.Name x' _, .Name y' _, .Name z' _, .Name u' _], [_, _, _, _] => decide (x' = x) && decide (y' = y) && decide (z' = z) && decide (u' = u) && locB N sc st i x && locB N sc st j y && locB N sc st l z && locB N sc st n u && decide (swB sc ts vs = some none)
  | _, _, _ => false
section
variable (N : List Str) (sc : Scope) (st : Str → Bool) (exc : ExcT)
mutual
def isS : S → Stmt → Bool
  | .asg tg e, s => match s with
    | .Assign [t] v _ => isTg N sc st tg t && isE N sc e v && asgB tg e v
    | _ => false
  | .par tg es, s => match s with
    | .Assign [.Tuple ts _ _] (.Tuple vs _ _) _ => parB N sc st tg ts vs && isEs N sc es vs
    | _ => false
  | .setIx i x k e, s => match s with
    | .Assign [.Subscript (.Name y _) kx _] v _ => decide (y = x) && varB N sc i x && notSlice kx && isE N sc k kx && isE N sc e v
    | _ => false
  | .sub o k e, s => match s with
    | .Assign [.Subscript x kx _] v _ => notSlice kx && (isE N sc o x && (isE N sc k kx && isE N sc e v))
    | _ => false
  | .app i x e, s => match s with
    | .Expr (.Call (.Attribute (.Name y _) f apos) [v] [] cpos) _ => decide (y = x) && decide (f = "append") && varB N sc i x && (apos.endLine == cpos.line) && notStar v && isE N sc e v
    | _ => false
  | .ext i x e, s => match s with
    | .Expr (.Call (.Attribute (.Name y _) f apos) [v] [] cpos) _ => decide (y = x) && decide (f = "extend") && varB N sc i x && (apos.endLine == cpos.line) && notStar v && isE N sc e v
    | _ => false
  | .aug i x op e, s => match s with
    | .AugAssign (.Name y _) o v _ => decide (y = x) && decide (o = bop op) && locB N sc st i x && isE N sc e v
    | _ => false
  | .ex e, s => match s with
    | .Expr v _ => noComp v && isE N sc e v
    | _ => false
  | .ret e, s => match s with
    | .Return (some v) _ => isE N sc e v
    | _ => false
  | .retV i x, s => match s with
    | .Return (some (.Name y _)) _ => decide (y = x) && varB N sc i x
    | _ => false
  | .ret0, s => match s with
    | .Return none _ => true
    | _ => false
  | .ite t a b, s => match s with
    | .If c xs ys _ => isT N sc t c && isSs a xs && isSs b ys
    | _ => false
  | .whl t b, s => match s with
    | .While c xs [] _ => isT N sc t c && isSs b xs
    | _ => false
  | .for_ tg it b, s => match s with
    | .For t i xs [] _ => enmOk it tg && isTg N sc st tg t && isI N sc it i && notSet i && isSs b xs
    | _ => false
  | .raise c es, s => match s with
    | .Raise (some (.Call (.Name c' _) (x :: xs) [] _)) none _ => decide (c' = c) && glB sc c && isEs N sc es (x :: xs)
    | _ => false
  | .tr b h, s => match s with
    | .Try body [hd] [] [] _ => isSs b body && isHd N sc st exc h hd
    | _ => false
  | .brk, s => match s with
    | .Break _ => true
    | _ => false
  | .cnt, s => match s with
    | .Continue _ => true
    | _ => false
  | .pass, s => match s with
    | .Pass _ => true
    | _ => false
  | .never, _ => true
def isSs : Ss → List Stmt → Bool
  | .nil, l => match l with
    | [] => true
    | _ => false
  | .cons s r, l => match l with
    | x :: xs => isS s x && isSs r xs
    | _ => false
end
end
structure XFn (X : Cx) : Prop where
  stk : X.stack = X.env :: X.outer
  frm : X.env.frame = some X.env.locals
  blk : X.env.blockKind = .function
theorem swOk_of {sc : Scope} {ts vs : List Expr} {ns : List Str} (h : swOk sc ts vs ns = true) : swB sc ts vs = some none ∨ (swB sc ts vs = some (some ns) ∧ ∀ x ∈ ns, (sc.names.lookup x == some .local) = true) := by
  unfold swOk at h
  split at h
  · exact .inl (by assumption)
  · rename_i l e
    rw [Bool.and_eq_true, decide_eq_true_eq] at h
    obtain ⟨rfl, h⟩ := h
    exact .inr ⟨e, fun x hx => List.all_eq_true.mp h x hx⟩
  · cases h
section
variable {Γ : Env} {xcl : Str → Option Addr} {fx : Fx} {N : List Str} {X : Cx} {W : WX} {sc : Scope} {st : Str → Bool} {k : Nat} {pos : Pos}
theorem soundP : ∀ (es : Es) {xs : List Expr}, XOk Γ xcl W N sc st k X → isEs N sc es xs = true → PA X xs (tPars (cfg X Γ xcl fx) W es)
  | .nil, _, ok, h => by rw [inv_nil h]; exact p_nil
  | .cons e r, _, ok, h => by obtain ⟨x, xs, rfl, h0, h1, h2⟩ := inv_cons h; exact p_cons h0 (soundE Γ xcl fx N e ok h1) (soundP r ok h2)
theorem s_par {tg : Tg} {es : Es} {ts vs : List Expr} {a b : Nat} {p1 p2 : Pos} (ok : XOk Γ xcl W N sc st k X) (xf : XFn X) (h : parB N sc st tg ts vs = true) (hes : isEs N sc es vs = true) : PS X (.Assign [.Tuple ts a p1] (.Tuple vs b p2) pos) (tS (cfg X Γ xcl fx) W (.par tg es)) := by
  have ha := soundP (fx := fx) es ok hes
  unfold parB at h
  split at h
  · simp only [Bool.and_eq_true] at h
    obtain ⟨⟨⟨⟨⟨e1, e2⟩, h1⟩, h2⟩, h3⟩, h4⟩ := h
    have e1 := of_decide_eq_true e1
    have e2 := of_decide_eq_true e2
    subst e1 e2
    rcases swOk_of h4 with hs | ⟨hs, hl⟩
    · exact s_parT2 ok xf.blk h1 h2 hs ha
    · exact s_par2 ok xf.blk h1 h2 h3 (hl _ (by simp)) (hl _ (by simp)) hs ha
  · simp only [Bool.and_eq_true] at h
    obtain ⟨⟨⟨⟨⟨⟨⟨⟨⟨e1, e2⟩, e3⟩, h1⟩, h2⟩, h3⟩, h4⟩, h5⟩, h6⟩, h7⟩ := h
    have e1 := of_decide_eq_true e1
    have e2 := of_decide_eq_true e2
    have e3 := of_decide_eq_true e3
    subst e1 e2 e3
    rcases swOk_of h7 with hs | ⟨hs, hl⟩
    · exact s_parT3 ok xf.blk h1 h2 h3 hs ha
    · exact s_par3 ok xf.blk h1 h2 h3 h4 h5 h6 (hl _ (by simp)) (hl _ (by simp)) (hl _ (by simp)) hs ha
  · simp only [Bool.and_eq_true] at h
    obtain ⟨⟨⟨⟨⟨⟨⟨⟨e1, e2⟩, e3⟩, e4⟩, h1⟩, h2⟩, h3⟩, h4⟩, h5⟩ := h
    have e1 := of_decide_eq_true e1
    have e2 := of_decide_eq_true e2
    have e3 := of_decide_eq_true e3
    have e4 := of_decide_eq_true e4
    subst e1 e2 e3 e4
    exact s_parT4 ok xf.blk h1 h2 h3 h4 (of_decide_eq_true h5) ha
  · cases h
theorem s_asg {tg : Tg} {e : E} {t v : Expr} (ok : XOk Γ xcl W N sc st k X) (xf : XFn X) (h1 : isTg N sc st tg t = true) (h2 : isE N sc e v = true) (h3 : asgB tg e v = true) : PS X (.Assign [t] v pos) (tS (cfg X Γ xcl fx) W (.asg tg e)) := by
  cases tg with
  | nm i x =>
    cases t with
    | Name y p =>
      have h1 : (decide (y = x) && locB N sc st i x) = true := h1
      rw [Bool.and_eq_true, decide_eq_true_eq] at h1
      obtain ⟨rfl, h1⟩ := h1
      have h3 : (noComp v || !nevE e) = true := h3
      cases hc : noComp v with
      | true => exact s_asgN ok h1 hc (soundE Γ xcl fx N e ok h2)
      | false =>
        rw [hc, Bool.false_or, Bool.not_eq_true'] at h3
        exact s_asgC ok h1 xf.blk (soundC Γ xcl fx N ok h2 hc h3)
    | _ => cases h1
  | tp1 a =>
    cases t with
    | Tuple es kk p => exact s_asgT h3 (s_tg ok h1) (soundE Γ xcl fx N e ok h2)
    | _ => cases h1
  | tp2 a b =>
    cases t with
    | Tuple es kk p => exact s_asgT h3 (s_tg ok h1) (soundE Γ xcl fx N e ok h2)
    | _ => cases h1
  | tp3 a b c =>
    cases t with
    | Tuple es kk p => exact s_asgT h3 (s_tg ok h1) (soundE Γ xcl fx N e ok h2)
    | _ => cases h1
  | tp4 a b c d =>
    cases t with
    | Tuple es kk p => exact s_asgT h3 (s_tg ok h1) (soundE Γ xcl fx N e ok h2)
    | _ => cases h1
end
section
variable (Γ : Env) (xcl : Str → Option Addr) (fx : Fx) (N : List Str)
mutual
theorem soundS : ∀ (s : S) {x : Stmt} {X : Cx} {W : WX} {sc : Scope} {st : Str → Bool} {k : Nat}, XOk Γ xcl W N sc st k X → EcOk X Γ xcl → XFn X → isS N sc st Γ.exc s x = true → PS X x (tS (cfg X Γ xcl fx) W s)
  | .asg tg e, x, _, _, sc, st, _, ok, ec, xf, h => by
    have h : (match (generalizing := false) x with | .Assign [t] v _ => isTg N sc st tg t && isE N sc e v && asgB tg e v | _ => false) = true := h
    split at h
    · simp only [Bool.and_eq_true] at h; exact s_asg ok xf h.1.1 h.1.2 h.2
    · cases h
  | .par tg es, x, _, _, sc, st, _, ok, ec, xf, h => by
    have h : (match (generalizing := false) x with | .Assign [.Tuple ts _ _] (.Tuple vs _ _) _ => parB N sc st tg ts vs && isEs N sc es vs | _ => false) = true := h
    split at h
    · simp only [Bool.and_eq_true] at h; exact s_par ok xf h.1 h.2
    · cases h
  | .setIx i n k e, x, _, _, sc, st, _, ok, ec, xf, h => by
    have h : (match (generalizing := false) x with | .Assign [.Subscript (.Name y _) kx _] v _ => decide (y = n) && varB N sc i n && notSlice kx && isE N sc k kx && isE N sc e v | _ => false) = true := h
    split at h
    · simp only [Bool.and_eq_true, decide_eq_true_eq] at h
      obtain ⟨⟨⟨⟨rfl, h1⟩, h2⟩, h3⟩, h4⟩ := h
      exact s_setIx ok h1 h2 (soundE Γ xcl fx N k ok h3) (soundE Γ xcl fx N e ok h4)
    · cases h
  | .app i n e, x, _, _, sc, st, _, ok, ec, xf, h => by
    have h : (match (generalizing := false) x with | .Expr (.Call (.Attribute (.Name y _) f apos) [v] [] cpos) _ => decide (y = n) && decide (f = "append") && varB N sc i n && (apos.endLine == cpos.line) && notStar v && isE N sc e v | _ => false) = true := h
    split at h
    · simp only [Bool.and_eq_true, decide_eq_true_eq] at h
      obtain ⟨⟨⟨⟨⟨rfl, rfl⟩, h1⟩, h2⟩, h3⟩, h4⟩ := h
      exact s_app ok h1 h2 h3 (soundE Γ xcl fx N e ok h4)
    · cases h
  | .ext i n e, x, _, _, sc, st, _, ok, ec, xf, h => by
    have h : (match (generalizing := false) x with | .Expr (.Call (.Attribute (.Name y _) f apos) [v] [] cpos) _ => decide (y = n) && decide (f = "extend") && varB N sc i n && (apos.endLine == cpos.line) && notStar v && isE N sc e v | _ => false) = true := h
    split at h
    · simp only [Bool.and_eq_true, decide_eq_true_eq] at h
      obtain ⟨⟨⟨⟨⟨rfl, rfl⟩, h1⟩, h2⟩, h3⟩, h4⟩ := h
      exact s_ext ok h1 h2 h3 (soundE Γ xcl fx N e ok h4)
    · cases h
  | .aug i n op e, x, _, _, sc, st, _, ok, ec, xf, h => by
    have h : (match (generalizing := false) x with | .AugAssign (.Name y _) o v _ => decide (y = n) && decide (o = bop op) && locB N sc st i n && isE N sc e v | _ => false) = true := h
    split at h
    · simp only [Bool.and_eq_true, decide_eq_true_eq] at h
      obtain ⟨⟨⟨rfl, rfl⟩, h1⟩, h2⟩ := h
      exact s_aug ok h1 (soundE Γ xcl fx N e ok h2)
    · cases h
  | .ex e, x, _, _, sc, st, _, ok, ec, xf, h => by
    have h : (match (generalizing := false) x with | .Expr v _ => noComp v && isE N sc e v | _ => false) = true := h
    split at h
    · simp only [Bool.and_eq_true] at h; exact s_ex h.1 (soundE Γ xcl fx N e ok h.2)
    · cases h
  | .ret e, x, _, _, sc, st, _, ok, ec, xf, h => by
    have h : (match (generalizing := false) x with | .Return (some v) _ => isE N sc e v | _ => false) = true := h
    split at h
    · exact s_ret (soundE Γ xcl fx N e ok h)
    · cases h
  | .retV i n, x, _, _, sc, st, _, ok, ec, xf, h => by
    have h : (match (generalizing := false) x with | .Return (some (.Name y _)) _ => decide (y = n) && varB N sc i n | _ => false) = true := h
    split at h
    · simp only [Bool.and_eq_true, decide_eq_true_eq] at h
      obtain ⟨rfl, h⟩ := h
      exact s_retV ok h
    · cases h
  | .ret0, x, _, _, sc, st, _, ok, ec, xf, h => by
    have h : (match (generalizing := false) x with | .Return none _ => true | _ => false) = true := h
    split at h
    · exact s_ret0
    · cases h
  | .ite t a b, x, _, _, sc, st, _, ok, ec, xf, h => by
    have h : (match (generalizing := false) x with | .If c xs ys _ => isT N sc t c && isSs N sc st Γ.exc a xs && isSs N sc st Γ.exc b ys | _ => false) = true := h
    split at h
    · simp only [Bool.and_eq_true] at h; exact s_if (soundT Γ xcl fx N t ok h.1.1) (soundSs a ok ec xf h.1.2) (soundSs b ok ec xf h.2)
    · cases h
  | .whl t b, x, _, _, sc, st, _, ok, ec, xf, h => by
    have h : (match (generalizing := false) x with | .While c xs [] _ => isT N sc t c && isSs N sc st Γ.exc b xs | _ => false) = true := h
    split at h
    · simp only [Bool.and_eq_true] at h; exact s_while ok (soundT Γ xcl fx N t ok h.1) (soundSs b ok ec xf h.2)
    · cases h
  | .for_ tg it b, x, _, _, sc, st, _, ok, ec, xf, h => by
    have h : (match (generalizing := false) x with | .For t i xs [] _ => enmOk it tg && isTg N sc st tg t && isI N sc it i && notSet i && isSs N sc st Γ.exc b xs | _ => false) = true := h
    split at h
    · simp only [Bool.and_eq_true] at h
      obtain ⟨⟨⟨⟨h0, h1⟩, h2⟩, h3⟩, h4⟩ := h
      exact s_for ok (soundI Γ xcl fx N it ok h0 h1 h2) (s_tg ok h1) (soundSs b ok ec xf h4) (fset_of h3)
    · cases h
  | .raise c es, x, _, _, sc, st, _, ok, ec, xf, h => by
    have h : (match (generalizing := false) x with | .Raise (some (.Call (.Name c' _) (x :: xs) [] _)) none _ => decide (c' = c) && glB sc c && isEs N sc es (x :: xs) | _ => false) = true := h
    split at h
    · simp only [Bool.and_eq_true, decide_eq_true_eq] at h
      obtain ⟨⟨rfl, h1⟩, h2⟩ := h
      exact s_raise ok ec h1 h2 (soundA Γ xcl fx N es ok h2)
    · cases h
  | .tr b hd, x, _, _, sc, st, _, ok, ec, xf, h => by
    have h : (match (generalizing := false) x with | .Try body [hd'] [] [] _ => isSs N sc st Γ.exc b body && isHd N sc st Γ.exc hd hd' | _ => false) = true := h
    split at h
    · simp only [Bool.and_eq_true] at h
      exact s_try ok ec xf.stk xf.frm h.2 fun W pn xe ok' ec' => soundSs b ok' ec' ⟨xf.stk, xf.frm, xf.blk⟩ h.1
    · cases h
  | .brk, x, _, _, sc, st, _, ok, ec, xf, h => by
    have h : (match (generalizing := false) x with | .Break _ => true | _ => false) = true := h
    split at h
    · exact s_brk
    · cases h
  | .cnt, x, _, _, sc, st, _, ok, ec, xf, h => by
    have h : (match (generalizing := false) x with | .Continue _ => true | _ => false) = true := h
    split at h
    · exact s_cnt
    · cases h
  | .pass, x, _, _, sc, st, _, ok, ec, xf, h => by
    have h : (match (generalizing := false) x with | .Pass _ => true | _ => false) = true := h
    split at h
    · exact s_pass
    · cases h
  | .never, x, _, _, sc, st, _, ok, ec, xf, h => s_never
  | .sub _ _ _, x, _, _, sc, st, _, ok, ec, xf, h => s_sub
theorem soundSs : ∀ (s : Ss) {x : List Stmt} {X : Cx} {W : WX} {sc : Scope} {st : Str → Bool} {k : Nat}, XOk Γ xcl W N sc st k X → EcOk X Γ xcl → XFn X → isSs N sc st Γ.exc s x = true → PSs X x (tSs (cfg X Γ xcl fx) W s)
  | .nil, x, _, _, sc, st, _, ok, ec, xf, h => by
    cases x with
    | nil => exact b_nil
    | cons _ _ => cases h
  | .cons s r, x, _, _, sc, st, _, ok, ec, xf, h => by
    cases x with
    | nil => cases h
    | cons y ys =>
      have h : (isS N sc st Γ.exc s y && isSs N sc st Γ.exc r ys) = true := h
      rw [Bool.and_eq_true] at h
      exact b_cons (soundS s ok ec xf h.1) (soundSs r ok ec xf h.2)
end
end
end Mini

set_option Elab.async false
set_option linter.all false
set_option maxRecDepth 100000
set_option maxHeartbeats 4000000
namespace Mini
open PySem PySem.Spec PyProof.Rows L2
/-! ### defs -/
section
variable {P : Program} {w : World} {K : PySem.W.Frag} {mg : Str → Option Value} {base : Heap}
theorem FnG.mono {j k : Nat} {f : Addr} {fd : FuncData} {ps : List Str} {sp : Sp} (F : FnG P w K mg base j f fd ps sp) (h : j ≤ k) : FnG P w K mg base k f fd ps sp :=
  ⟨F.len, fun A outer s H args us vs Q E hr => F.run A outer s H args us vs Q E (hr.mono h)⟩
theorem FnG.imp {k : Nat} {f : Addr} {fd : FuncData} {ps : List Str} {sp sp' : Sp} (F : FnG P w K mg base k f fd ps sp) (h : ∀ vs H Q E, sp' vs H Q E → sp vs H Q E) : FnG P w K mg base k f fd ps sp' :=
  ⟨fun vs H Q E q => F.len vs H Q E (h vs H Q E q), fun A outer s H args us vs Q E hr hg e0 hb r q => F.run A outer s H args us vs Q E hr hg e0 hb r (h vs H Q E q)⟩
theorem fn_ofG {k : Nat} {f : Addr} {name qual : Str} {params : Arguments} {body : List Stmt} {scope : Scope} {dV kV doc pm cdv ct oc : Value} {an od : Option Addr} {osl : Array (Option Value)} {N ps : List Str} {sp : Sp}
    (lk : K.lookup f = some ⟨oc, od, .func (PySem.W.fnOf name qual params body scope dV kV doc pm an cdv ct), osl⟩) (hcd : PySem.W.codeIn K cdv qual = true) (sc : FnScope N ps scope) (len : ∀ vs H Q E, sp vs H Q E → vs.length = ps.length)
    (hbody : ∀ (A : Around) (outer : List PySem.Env) (s : Shared) (H : Hp) (vs : List V) (Q : VK) (E : XK), Room k (A.deeper (envOfC qual scope s.heap.objs.size f cdv)) → A.guards = some [] → Mod K mg base → sp vs H Q E →
      ∃ t, PSs (cxOf (L2.CX P w) P w K mg base N qual scope f cdv A outer s H E) body t ∧ t { nx := fun _ H' => Q .non H', rt := Q } (start N vs) H) :
    FnG P w K mg base (k + 1) f (PySem.W.fnOf name qual params body scope dV kV doc pm an cdv ct) ps sp := by
  refine ⟨len, fun A outer s H args us vs Q E hr hg e0 hb r hsp => ?_⟩
  have up : ∀ b o, base.get? b = some o → s.heap.get? b = some o := fun b o e => (e0.bs b o e).1
  have KX : K.In s.heap := e0.mod.kin.keeps up
  refine codeAny_call_function hr.depth (KX _ _ lk) rfl sc.co sc.gen rfl (PySem.W.codeRec_of KX hcd) (hb _ _ _ _ ?_)
  refine wpAny_newFunctionEnv_cells sc.kind (fun ⟨n, v⟩ hy => (sc.par n (List.of_mem_zip hy).1).imp id fun q => ⟨q, PySem.W.cellsFrom_some _ _ _ (.inl q)⟩) fun env he s1 x => ?_
  subst he
  refine ⟨(e0.mod.nolimit.keeps up).keeps x.toInCall.keep, codeAny_func ?_⟩
  obtain ⟨t, ht, hq⟩ := hbody A outer s H vs Q E (hr.deeper _) hg e0.mod hsp
  have I0 : Inv (cxOf (L2.CX P w) P w K mg base N qual scope f cdv A outer s H E) [] (start N vs) H s1 := inv_start sc hr.hd e0 (len _ _ _ _ hsp) r x
  refine wpAny_mono (ht.run [] s1 (start N vs) H _ I0 hq) (fun fl s' hs => ?_) fun _ _ hs => hs
  cases fl with
  | ret u => obtain ⟨v, σ', H', J, rv, q⟩ := hs; exact ⟨v, H', J.os, J.bare, J.base, J.hok, rv, q⟩
  | next => obtain ⟨σ', H', J, q⟩ := hs; exact ⟨.non, H', J.os, J.bare, J.base, J.hok, rfl, q⟩
  | brk => obtain ⟨_, _, _, q⟩ := hs; exact q.elim
  | cont => obtain ⟨_, _, _, q⟩ := hs; exact q.elim
end
theorem startR_get {n : Nat} {args : List Val} {i : Nat} {v : Val} (h : (startR n args)[i]? = some (some v)) : args[i]? = some v := by
  unfold startR at h
  by_cases hi : i < args.length
  · rw [List.getElem?_append_left (by simpa using hi), List.getElem?_map] at h
    obtain ⟨a, e1, e2⟩ := Option.map_eq_some_iff.mp h
    rw [e1]; exact e2
  · rw [List.getElem?_append_right (by simpa using hi), List.getElem?_replicate] at h
    split at h <;> cases h
theorem RVs.get {w : World} {K : PySem.W.Frag} {Hf H : Hp} {L : Loc3} : ∀ {vs : List V} {xs : List Val} {i : Nat} {x : Val}, RVs w K Hf H L vs xs → xs[i]? = some x → ∃ v, vs[i]? = some v ∧ RV w K Hf H L v x
  | _, _, _, _, .nil, e => by simp at e
  | _, _, 0, _, .cons h _, e => by simp at e; subst e; exact ⟨_, rfl, h⟩
  | _, _, i + 1, _, .cons _ h, e => by
    obtain ⟨v, h1, h2⟩ := RVs.get (i := i) h (by simpa using e)
    exact ⟨v, by simpa using h1, h2⟩
/-- a def's entry -/
theorem sim_start {w : World} {K : PySem.W.Frag} {Hf H : Hp} {L : Loc3} {dr : Option Draw} {vs : List V} {args : List Val} {N : List Str} (sm : Same Hf H) (hd : DrOk Hf H L dr) (rv : RVs w K Hf H L vs args) (ho : ∀ x ∈ args, Val.owned x = false) :
    Sim w K ⟨H, Hf, L⟩ ⟨⟨startR N.length args, dr⟩, Hf, L⟩ H (L2.start N vs) := by
  have hl := rv.length
  have no : ∀ {i : Nat} {v : Val}, (startR N.length args)[i]? = some (some v) → v.owned = false := fun {i v} h => ho v (List.mem_of_getElem? (startR_get h))
  refine ⟨sm, ?_, fun i v h => ?_, fun b ⟨i, v, h1, h2, _⟩ => ?_, fun i j v v' a _ h1 _ o1 _ _ _ => ?_, hd, fun _ h => .inl h, fun _ h => .inl h, fun _ _ h _ => h, fun _ _ h => .inl h, Same.refl _, fun _ o h => ⟨o, h⟩, LStep.refl _⟩
  · show (startR N.length args).length = (L2.start N vs).length
    unfold startR L2.start
    simp [hl]
  · have e := startR_get h
    obtain ⟨u, e1, e2⟩ := rv.get e
    refine ⟨u, ?_, e2⟩
    unfold L2.start
    have hi : i < vs.length := by
      have := List.getElem?_eq_some_iff.mp e1
      exact this.1
    rw [List.getElem?_append_left (by simpa using hi), List.getElem?_map, e1]
    rfl
  · rw [no h1] at h2; cases h2
  · rw [no h1] at o1; cases o1
theorem post_of {w : World} {K : PySem.W.Frag} {Hf H : Hp} {L : Loc3} {p : Pt} {H' : Hp} {σ : L2.St} (s : Sim w K ⟨H, Hf, L⟩ p H' σ) (sm : Same Hf p.Hf) : CallPost Hf H L p.Hf H' p.L p.S.dr :=
  ⟨sm, s.sub, s.base, s.ex0, s.newf, s.drA, s.dr0, s.l0, s.dr⟩
/-- what the head tells of a text -/
structure DefOk (K : PySem.W.Frag) (mg : Str → Option Value) (exc : ExcT) (f : Str) (fd : Fd) (fa : Addr) (fdat : FuncData) : Prop where
  ex : ∃ (name qual : Str) (params : Arguments) (body : List Stmt) (scope : Scope) (dV kV doc pm cdv ct oc : Value) (an od : Option Addr) (osl : Array (Option Value)), fdat = PySem.W.fnOf name qual params body scope dV kV doc pm an cdv ct ∧ K.lookup fa = some ⟨oc, od, .func fdat, osl⟩ ∧ PySem.W.codeIn K cdv qual = true ∧
    FnScope fd.N fd.ps scope ∧ isSs fd.N scope (fun _ => true) exc fd.body body = true
  at_ : mg f = some (.ref fa)
  kp : PySem.W.keepIn K (.ref fa) = true
  bind : L2.Binds K fdat fd.ps []
structure TxtOk (P : Program) (w : World) (K : PySem.W.Frag) (mg : Str → Option Value) (T : Txt) (xcl : Str → Option Addr) (k0 : Nat) : Prop where
  bt : ∀ x : Str, x ∈ ([("len" : Str), "sorted", "tuple", "list", "set", "dict", "all", "any", "min", "max", "sum", "repr", "int", "isinstance", "bool", "str", "range", "enumerate", "super"] : List Str) → mg x = none
  gl : ∀ x d, T.glob x = some d → flatD d = true ∧ ∃ u, mg x = some u ∧ RelV (toV d) u
  defs : ∀ f fd, T.fds.lookup f = some fd → T.prim f = none → ∃ fa fdat, DefOk K mg T.exc f fd fa fdat
  prims : ∀ f p, T.prim f = some p → ∃ fa fdat ps, mg f = some (.ref fa) ∧ PySem.W.keepIn K (.ref fa) = true ∧ L2.Binds K fdat ps [] ∧ (∀ vs dr, p vs dr ≠ .no → vs.length = ps.length) ∧ ∀ base, Mod K mg base → ∀ fns : Fns, (∀ vs dr, fns f vs dr = p vs dr) → FnG P w K mg base k0 fa fdat ps (spF w K fns xcl f ps.length)
  ec : ∀ c ps fs, T.exc c = some (ps, fs) → ∃ C fI fd me, xcl c = some C ∧ ErrK K C fI ∧ InitK P K C fI fd me ps fs ∧ XfC K C
  xm : ∀ a b A B, xcl a = some A → xcl b = some B → PySem.W.exmOne K (.ref A) (.ref B) = some (decide (a = b))
  xg : ∀ c C, xcl c = some C → mg c = some (.ref C)
section
variable {P : Program} {w : World} {K : PySem.W.Frag} {mg : Str → Option Value} {base : Heap} {T : Txt} {xcl : Str → Option Addr} {k0 : Nat}
theorem spF_no {fns : Fns} {f : Str} {np : Nat} (h : ∀ vs dr, fns f vs dr = .no) : ∀ vs H Q E, spF w K fns xcl f np vs H Q E → False := fun vs H Q E ⟨_, Hf, L, dr, args, _, _, _, _, q⟩ => by
  rw [h] at q; exact q
/-- each def keeps its promise, to any depth -/
theorem all_fns (ok : TxtOk P w K mg T xcl k0) (hm : Mod K mg base) : ∀ (n : Nat) (f : Str), T.has f = true → ∃ fa fd ps, mg f = some (.ref fa) ∧ PySem.W.keepIn K (.ref fa) = true ∧ L2.Binds K fd ps [] ∧ (∀ vs dr, callN T n f vs dr ≠ .no → vs.length = ps.length) ∧ FnG P w K mg base (k0 + n) fa fd ps (spF w K (callN T n) xcl f ps.length)
  | 0, f, hf => by
    have triv : ∀ (fa : Addr) (fd : FuncData) (ps : List Str), FnG P w K mg base (k0 + 0) fa fd ps (spF w K (callN T 0) xcl f ps.length) := fun fa fd ps =>
      ⟨fun vs H Q E h => h.1, fun A outer s H args us vs Q E _ _ _ _ _ h => (spF_no (fun _ _ => rfl) _ _ _ _ h).elim⟩
    cases hp : T.prim f with
    | some p =>
      obtain ⟨fa, fd, ps, h1, h2, h3, h4, _⟩ := ok.prims f p hp
      exact ⟨fa, fd, ps, h1, h2, h3, fun vs dr z => absurd rfl z, triv fa fd ps⟩
    | none =>
      have hf : ((T.prim f).isSome || (T.fds.lookup f).isSome) = true := hf
      rw [hp, Option.isSome_none, Bool.false_or] at hf
      obtain ⟨fd, e⟩ := Option.isSome_iff_exists.mp hf
      obtain ⟨fa, fdat, d⟩ := ok.defs f fd e hp
      exact ⟨fa, fdat, fd.ps, d.at_, d.kp, d.bind, fun vs dr z => absurd rfl z, triv fa fdat fd.ps⟩
  | n + 1, f, hf => by
    cases hp : T.prim f with
    | some p =>
      obtain ⟨fa, fd, ps, h1, h2, h3, h4, h5⟩ := ok.prims f p hp
      have e : ∀ vs dr, callN T (n + 1) f vs dr = p vs dr := fun vs dr => by
        show (match T.prim f with | some p => p vs dr | none => _) = _
        rw [hp]
      exact ⟨fa, fd, ps, h1, h2, h3, fun vs dr z => h4 vs dr (by rw [← e]; exact z), (h5 base hm (callN T (n + 1)) e).mono (Nat.le_add_right _ _)⟩
    | none =>
      have hf : ((T.prim f).isSome || (T.fds.lookup f).isSome) = true := hf
      rw [hp, Option.isSome_none, Bool.false_or] at hf
      obtain ⟨fd, e⟩ := Option.isSome_iff_exists.mp hf
      obtain ⟨fa, fdat, d⟩ := ok.defs f fd e hp
      have ec : ∀ vs dr, callN T (n + 1) f vs dr = runFd (T.env n) fd vs dr := fun vs dr => by
        show (match T.prim f with | some p => p vs dr | none => match T.fds.lookup f with | some fd => runFd ⟨T.has, callN T n, T.glob, T.exc⟩ fd vs dr | none => .no) = _
        rw [hp, e]
      refine ⟨fa, fdat, fd.ps, d.at_, d.kp, d.bind, fun vs dr z => ?_, ?_⟩
      · rw [ec] at z
        unfold runFd at z
        split at z
        · assumption
        · exact absurd rfl z
      · obtain ⟨name, qual, params, body, scope, dV, kV, doc, pm, cdv, ct, oc, an, od, osl, rfl, lk, hcd, sc, hb⟩ := d.ex
        refine fn_ofG lk hcd sc (fun vs H Q E h => h.1) fun A outer s H vs Q E hr hg hmod hsp => ?_
        obtain ⟨hlv, Hf, L, dr, args, sm, hd, rv, ho, q⟩ := hsp
        rw [ec] at q
        have xok : XOk (T.env n) xcl (fun cls d _ H => E cls d H) fd.N scope (fun _ => true) (k0 + n) (cxOf (L2.CX P w) P w K mg base fd.N qual scope fa cdv A outer s H E) :=
          { G := ⟨ok.bt, ok.gl, fun g hg => all_fns ok hm n g hg⟩
            hN := rfl, nd := sc.nd, sc := rfl, calm := rfl, room := hr, gd := hg
            tk := takes_of rfl rfl rfl rfl
            po := passes_of rfl
            hst := fun _ _ => .inl rfl }
        refine ⟨_, soundSs (T.env n) xcl ⟨H, Hf, L⟩ fd.N fd.body xok ⟨ok.ec, ok.xm, ok.xg⟩ ⟨rfl, rfl, ?_⟩ hb, ⟨⟨startR fd.N.length args, dr⟩, Hf, L⟩, sim_start sm hd rv ho, ?_⟩
        · show (envOfC qual scope s.heap.objs.size fa cdv).blockKind = .function
          unfold Env.blockKind
          show (if scope.kind.isAnnotationScope = true then _ else scope.kind) = _
          rw [sc.kind]; rfl
        · unfold runFd at q
          by_cases hl : args.length = fd.ps.length
          · rw [if_pos hl] at q
            show OutP (execs (T.env n) fd.body ⟨startR fd.N.length args, dr⟩) _ _
            cases er : execs (T.env n) fd.body ⟨startR fd.N.length args, dr⟩ with
            | no => rw [er] at q; exact q
            | er e S' =>
              rw [er] at q
              intro cls d σ' H' p' e1 s' sm' xr
              subst e1
              exact q cls d H' p'.Hf p'.L (post_of s' sm') xr
            | ok fl S' =>
              rw [er] at q
              cases fl with
              | rt v =>
                intro u σ' H' p' e1 s' sm' rv' ow
                subst e1
                exact q u H' p'.Hf p'.L (post_of s' sm') rv' ow
              | nx =>
                intro σ' H' p' e1 s' sm'
                subst e1
                exact q .non H' p'.Hf p'.L (post_of s' sm') Rp.non fun z => nomatch z
              | bk => exact q.elim
              | ct => exact q.elim
          · rw [if_neg hl] at q; exact q.elim
end
end Mini

set_option Elab.async false
set_option linter.all false
set_option maxRecDepth 100000
set_option maxHeartbeats 4000000
namespace Mini
open PySem PySem.Spec PyProof.Rows L2
/-! ### forms of statements -/
section
variable {N : List Str} {sc : Scope} {st : Str → Bool} {exc : ExcT}
theorem ivs_cons {s : S} {r : Ss} {l : List Stmt} (h : isSs N sc st exc (.cons s r) l = true) : ∃ x xs, l = x :: xs ∧ isS N sc st exc s x = true ∧ isSs N sc st exc r xs = true := by
  cases l with
  | nil => cases h
  | cons x xs =>
    have h : (isS N sc st exc s x && isSs N sc st exc r xs) = true := h
    rw [Bool.and_eq_true] at h
    exact ⟨x, xs, rfl, h.1, h.2⟩
theorem ivs_nil {l : List Stmt} (h : isSs N sc st exc .nil l = true) : l = [] := by
  cases l with
  | nil => rfl
  | cons x xs => cases h
theorem ivs_asg {i : Nat} {n : Str} {e : E} {x : Stmt} (h : isS N sc st exc (.asg (.nm i n) e) x = true) : ∃ p v q, x = .Assign [.Name n p] v q ∧ locB N sc st i n = true ∧ isE N sc e v = true := by
  have h : (match (generalizing := false) x with | .Assign [t] v _ => isTg N sc st (.nm i n) t && isE N sc e v && asgB (.nm i n) e v | _ => false) = true := h
  split at h
  · simp only [Bool.and_eq_true] at h
    obtain ⟨⟨h1, h2⟩, _⟩ := h
    rename_i t v _ _
    have h1 : (match (generalizing := false) t with | .Name y _ => decide (y = n) && locB N sc st i n | _ => false) = true := h1
    split at h1
    · rw [Bool.and_eq_true, decide_eq_true_eq] at h1
      obtain ⟨rfl, h1⟩ := h1
      exact ⟨_, _, _, rfl, h1, h2⟩
    · cases h1
  · cases h
theorem ivs_setIx {i : Nat} {n : Str} {k e : E} {x : Stmt} (h : isS N sc st exc (.setIx i n k e) x = true) : ∃ p kx q v r, x = .Assign [.Subscript (.Name n p) kx q] v r ∧ varB N sc i n = true ∧ notSlice kx = true ∧ isE N sc k kx = true ∧ isE N sc e v = true := by
  have h : (match (generalizing := false) x with | .Assign [.Subscript (.Name y _) kx _] v _ => decide (y = n) && varB N sc i n && notSlice kx && isE N sc k kx && isE N sc e v | _ => false) = true := h
  split at h
  · simp only [Bool.and_eq_true, decide_eq_true_eq] at h
    obtain ⟨⟨⟨⟨rfl, h1⟩, h2⟩, h3⟩, h4⟩ := h
    exact ⟨_, _, _, _, _, rfl, h1, h2, h3, h4⟩
  · cases h
theorem ivs_sub {o k e : E} {x : Stmt} (h : isS N sc st exc (.sub o k e) x = true) : ∃ y kx q v r, x = .Assign [.Subscript y kx q] v r ∧ notSlice kx = true ∧ isE N sc o y = true ∧ isE N sc k kx = true ∧ isE N sc e v = true := by
  have h : (match (generalizing := false) x with | .Assign [.Subscript y kx _] v _ => notSlice kx && (isE N sc o y && (isE N sc k kx && isE N sc e v)) | _ => false) = true := h
  split at h
  · simp only [Bool.and_eq_true] at h
    exact ⟨_, _, _, _, _, rfl, h.1, h.2.1, h.2.2.1, h.2.2.2⟩
  · cases h
theorem ivs_ite {t : Tst} {a b : Ss} {x : Stmt} (h : isS N sc st exc (.ite t a b) x = true) : ∃ c xs ys p, x = .If c xs ys p ∧ isT N sc t c = true ∧ isSs N sc st exc a xs = true ∧ isSs N sc st exc b ys = true := by
  have h : (match (generalizing := false) x with | .If c xs ys _ => isT N sc t c && isSs N sc st exc a xs && isSs N sc st exc b ys | _ => false) = true := h
  split at h
  · simp only [Bool.and_eq_true] at h
    exact ⟨_, _, _, _, rfl, h.1.1, h.1.2, h.2⟩
  · cases h
theorem ivs_whl {t : Tst} {b : Ss} {x : Stmt} (h : isS N sc st exc (.whl t b) x = true) : ∃ c xs p, x = .While c xs [] p ∧ isT N sc t c = true ∧ isSs N sc st exc b xs = true := by
  have h : (match (generalizing := false) x with | .While c xs [] _ => isT N sc t c && isSs N sc st exc b xs | _ => false) = true := h
  split at h
  · simp only [Bool.and_eq_true] at h
    exact ⟨_, _, _, rfl, h.1, h.2⟩
  · cases h
theorem ivs_ret {e : E} {x : Stmt} (h : isS N sc st exc (.ret e) x = true) : ∃ v p, x = .Return (some v) p ∧ isE N sc e v = true := by
  have h : (match (generalizing := false) x with | .Return (some v) _ => isE N sc e v | _ => false) = true := h
  split at h
  · exact ⟨_, _, rfl, h⟩
  · cases h
end
/-! ### ints in lists -/
theorem plain_ints : ∀ ns : List Int, PyData.plainAll (ns.map PyData.int) = true
  | [] => rfl
  | n :: r => by show (true && PyData.plainAll (r.map PyData.int)) = true; rw [plain_ints r]; rfl
theorem depth_ints : ∀ ns : List Int, PyData.depthAll (ns.map PyData.int) = 0
  | [] => rfl
  | n :: r => by show max 0 (PyData.depthAll (r.map PyData.int)) = 0; rw [depth_ints r]; rfl
theorem plainD_ints (ns : List Int) : plainD (.list (ns.map PyData.int)) = true := by
  have h1 : (PyData.list (ns.map PyData.int)).plain = true := plain_ints ns
  have h2 : (PyData.list (ns.map PyData.int)).depth = 1 := by show PyData.depthAll (ns.map PyData.int) + 1 = 1; rw [depth_ints]
  unfold plainD
  rw [h1, h2]; rfl
theorem ne_nilD (ns : List Int) : cmpD .ne (.list (ns.map PyData.int)) (.list []) = some (!ns.isEmpty) := by
  show (eqD (.list (ns.map PyData.int)) (.list [])).map (!·) = _
  unfold eqD
  rw [plainD_ints]
  cases ns <;> rfl
/-! ### the readings of the draws' parts -/
def tKey (i : Nat) (key : Str) : TE := fun σ H Q => ∃ a kvs v, σ[i]? = some (some (.ref a)) ∧ H a = some (.dK kvs) ∧ valV kvs (.inr key) = some v ∧ Q v H
section
variable {X : Cx} {Γ : Env} {xcl : Str → Option Addr} {fx : Fx} {W : WX} {N : List Str} {sc : Scope} {st : Str → Bool} {k : Nat} {pos : Pos} {m : Bool}
theorem pe_key {i : Nat} {x key : Str} {e : Expr} (ok : XOk Γ xcl W N sc st k X) (h : isE N sc (.ix (.var i x) (.str key)) e = true) : PE X e (tKey i key) := by
  have hu : X.A.units + 64 < cLine := by have := ok.room.un; omega
  obtain ⟨y, z, p, rfl, _, hy, hz⟩ := inv_ix h
  obtain ⟨p1, rfl, hv⟩ := inv_var hy
  obtain ⟨j, p2, rfl⟩ := inv_str hz
  obtain ⟨h1, h2, h3, h4⟩ := var_of ok hv
  refine (pe_dget (by omega) (pe_var h1 h2 h3 h4) pe_str (fun _ _ => rfl)).weak fun σ H Q ⟨a, kvs, v, e1, e2, e3, q⟩ => ?_
  exact ⟨.ref a, e1, a, v, rfl, .inl ⟨kvs, .inr key, .inl e2, rfl, e3.symm⟩, q⟩
theorem pe_key0 {i : Nat} {x key : Str} {e : Expr} (ok : XOk Γ xcl W N sc st k X) (h : isE N sc (.ix (.ix (.var i x) (.str key)) (.int 0)) e = true) : PE X e (fun σ H Q => ∃ (a : Addr) (kvs : List (Key × V)) (l : Addr) (n : Int) (ns : List Int), σ[i]? = some (some (.ref a)) ∧ H a = some (.dK kvs) ∧ valV kvs (.inr key) = some (.ref l) ∧ H l = some (.lst ((n :: ns).map V.int)) ∧ Q (.int n) H) := by
  have hu : X.A.units + 64 < cLine := by have := ok.room.un; omega
  obtain ⟨y, z, p, rfl, hs, hy, hz⟩ := inv_ix h
  obtain ⟨j, p2, rfl⟩ := inv_int hz
  refine (pe_ix ix_seq (pe_key ok hy) pe_int (plainIx_of hs)).weak fun σ H Q ⟨a, kvs, l, n, ns, e1, e2, e3, e4, q⟩ => ?_
  exact ⟨a, kvs, .ref l, e1, e2, e3, .inl ⟨l, _, 0, .int n, rfl, rfl, .inl (.inl e4), by simp [atI, ixN], q⟩⟩
theorem pt_ne {i : Nat} {x key : Str} {e : Expr} (ok : XOk Γ xcl W N sc st k X) (h : isE N sc (.cmp .ne (.ix (.var i x) (.str key)) (.lst .nil)) e = true) : PT X e (fun σ H Q => ∃ (a : Addr) (kvs : List (Key × V)) (l : Addr) (ns : List Int), σ[i]? = some (some (.ref a)) ∧ H a = some (.dK kvs) ∧ valV kvs (.inr key) = some (.ref l) ∧ H l = some (.lst (ns.map V.int)) ∧ ∀ p, H p = none → Q (!ns.isEmpty) (upd H p (.lst []))) := by
  have hu : X.A.units + 64 < cLine := by have := ok.room.un; omega
  obtain ⟨y, z, p, rfl, hn, hy, hz⟩ := inv_cmp h
  obtain ⟨xs, p2, rfl, hx⟩ := inv_lst hz
  rw [inv_nil hx]
  refine (pt_cmpR (op_cmpM (op := .ne) hu) (pe_key ok hy) (pe_lst pa_nil) rfl).weak fun σ H Q ⟨a, kvs, l, ns, e1, e2, e3, e4, q⟩ => ?_
  refine ⟨a, kvs, .ref l, e1, e2, e3, Nat.zero_le _, fun p hp => ⟨.list (ns.map .int), .list [], !ns.isEmpty, ?_, .lst upd_same .nil, ne_nilD ns, _, rfl, q p hp⟩⟩
  exact .lst (Same.lay hp _ _ e4) (ints_rp ns)
theorem pt_eq0 {i : Nat} {x key : Str} {e : Expr} (ok : XOk Γ xcl W N sc st k X) (h : isE N sc (.cmp .eq (.ix (.ix (.var i x) (.str key)) (.int 0)) (.int 0)) e = true) : PT X e (fun σ H Q => ∃ (a : Addr) (kvs : List (Key × V)) (l : Addr) (n : Int) (ns : List Int), σ[i]? = some (some (.ref a)) ∧ H a = some (.dK kvs) ∧ valV kvs (.inr key) = some (.ref l) ∧ H l = some (.lst ((n :: ns).map V.int)) ∧ Q (n == 0) H) := by
  have hu : X.A.units + 64 < cLine := by have := ok.room.un; omega
  obtain ⟨y, z, p, rfl, hn, hy, hz⟩ := inv_cmp h
  obtain ⟨j, p2, rfl⟩ := inv_int hz
  refine (pt_cmpR (op_cmpM (op := .eq) hu) (pe_key0 ok hy) pe_int rfl).weak fun σ H Q ⟨a, kvs, l, n, ns, e1, e2, e3, e4, q⟩ => ?_
  exact ⟨a, kvs, l, n, ns, e1, e2, e3, e4, .int n, .int 0, n == 0, .int n, .int 0, rfl, _, rfl, q⟩
end
end Mini

set_option Elab.async false
set_option linter.all false
set_option maxRecDepth 100000
set_option maxHeartbeats 4000000
namespace Mini
open PySem PySem.Spec PyProof.Rows L2
/-! ### the statements of _law_next, each by itself -/
section
variable {X : Cx} {Γ : Env} {xcl : Str → Option Addr} {fx : Fx} {W : WX} {N : List Str} {sc : Scope} {st : Str → Bool} {exc : ExcT} {k : Nat} {pos : Pos} {m : Bool}
theorem pe_v {i : Nat} {x : Str} {e : Expr} (ok : XOk Γ xcl W N sc st k X) (h : isE N sc (.var i x) e = true) : PE X e (tVar i) := by
  obtain ⟨p1, rfl, hv⟩ := inv_var h
  obtain ⟨h1, h2, h3, h4⟩ := var_of ok hv
  exact pe_var h1 h2 h3 h4
def rInt1 : List V → Hp → VK → Prop := fun xs H Q => (∃ i, xs = [.int i] ∧ Q (.int i) H) ∨ ∃ k, xs = [.bl k] ∧ Q (.int (if k then 1 else 0)) H
theorem pe_int1 {a : E} {e : Expr} {t : TE} (ok : XOk Γ xcl W N sc st k X) (h : isE N sc (.bi .int (.cons a .nil)) e = true) (ha : ∀ x, isE N sc a x = true → PE X x t) : PE X e (tCB rInt1 (tCons t tNil)) := by
  obtain ⟨f, p, y, ys, q, rfl, rfl, hg, hes⟩ := inv_bi h
  obtain ⟨x, xs, e1, _, h1, h2⟩ := inv_cons hes
  cases e1
  cases inv_nil h2
  obtain ⟨g1, g2, g3⟩ := gl_of ok hg
  have am : ArgOk X y [] := argOk_of hes
  exact pe_callTy call_int1 g1 (ok.G.bt _ (by decide)) (by decide +kernel) (pa_cons (ha _ h1) pa_nil am.he) g3 g2 am.he (am.hpl q)
theorem pe_len1 {a : E} {e : Expr} {t : TE} (ok : XOk Γ xcl W N sc st k X) (h : isE N sc (.bi .len (.cons a .nil)) e = true) (ha : ∀ x, isE N sc a x = true → PE X x t) : PE X e (tCB (rLenM X) (tCons t tNil)) := by
  obtain ⟨f, p, y, ys, q, rfl, rfl, hg, hes⟩ := inv_bi h
  obtain ⟨x, xs, e1, _, h1, h2⟩ := inv_cons hes
  cases e1
  cases inv_nil h2
  obtain ⟨g1, g2, g3⟩ := gl_of ok hg
  have am : ArgOk X y [] := argOk_of hes
  exact pe_callB call_lenM g1 (ok.G.bt _ (by decide)) (by decide +kernel) (pa_cons (ha _ h1) pa_nil am.he) g3 g2 am.he (am.hpl q)
theorem ps_set' {i : Nat} {x : Str} {e : Expr} {te : TE} {p q : Pos} (ok : XOk Γ xcl W N sc st k X) (hx : locB N sc st i x = true) (hc : noComp e = true) (he : PE X e te) : PS X (.Assign [.Name x p] e q) (tAsg te (gName i)) := by
  obtain ⟨h1, h2, h3⟩ := loc_of ok hx
  exact ps_set (by rw [ok.hN]; exact ok.nd) h1 h2 he (sw_noComp hc) h3
/-- m[key] = m[key][1:] -/
theorem ps_cut {i : Nat} {x key : Str} {s : Stmt} (ok : XOk Γ xcl W N sc st k X) (h : isS N sc st exc (.setIx i x (.str key) (.sl (.ix (.var i x) (.str key)) (.some (.int 1)) .none)) s = true) :
    PS X s (fun D σ H => ∃ (a : Addr) (kvs : List (Key × V)) (l : Addr) (ns : List Int), σ[i]? = some (some (.ref a)) ∧ H a = some (.dK kvs) ∧ kvs.length < sizeLine ∧ valV kvs (.inr key) = some (.ref l) ∧ H l = some (.lst (ns.map V.int)) ∧
      ∀ p, H p = none → D.nx σ (upd (upd H p (.lst ((ns.drop 1).map V.int))) a (.dK (putK kvs (.inr key) (.ref p))))) := by
  have hu : X.A.units + 64 < cLine := by have := ok.room.un; omega
  obtain ⟨p, kx, q, v, r, rfl, hv, hs, hk, he⟩ := ivs_setIx h
  obtain ⟨j, p2, rfl⟩ := inv_str hk
  obtain ⟨y, lo, up, p3, p4, rfl, hy, hlo, hup⟩ := inv_sl he
  cases up with
  | some _ => cases hup
  | none =>
    cases lo with
    | none => cases hlo
    | some lo =>
      obtain ⟨j2, p5, rfl⟩ := inv_int (show isE N sc (.int 1) lo = true from hlo)
      obtain ⟨h1, h2, h3, h4⟩ := var_of ok hv
      refine (ps_dput (by omega) (pe_var h1 h2 h3 h4) pe_str (pe_slice sl_list (pe_key ok hy) (po_some pe_int) po_none) rfl).weak fun D σ H ⟨a, kvs, l, ns, e1, e2, hz, e3, e4, q⟩ => ?_
      refine ⟨a, kvs, .ref l, e1, e2, e3, 1, rfl, l, _, rfl, .inl (.inl e4), fun p hp => ⟨.ref a, e1, a, _, rfl, DPut.k (k := .inr key) (Same.lay hp _ _ e2) hz, ?_⟩⟩
      have ec : cutV (ns.map V.int) (some 1) none = (ns.drop 1).map V.int := by
        have e1 : HT.sIx (ns.map V.int).length 0 (some 1) = min 1 (ns.map V.int).length := by simp [HT.sIx]
        have e2 : HT.sIx (ns.map V.int).length (ns.map V.int).length none = (ns.map V.int).length := rfl
        unfold cutV
        rw [e1, e2]
        cases ns with
        | nil => rfl
        | cons n r =>
          simp only [List.map_cons, List.length_cons]
          rw [show min 1 ((r.map V.int).length + 1) = 1 by omega]
          show (r.map V.int).take _ = r.map V.int
          rw [List.take_of_length_le (by omega)]
      rw [ec]
      exact q p hp
/-- rest = int(m[key][0]) -/
theorem ps_rest {i j : Nat} {x key z : Str} {s : Stmt} (ok : XOk Γ xcl W N sc st k X) (h : isS N sc st exc (.asg (.nm j z) (.bi .int (.cons (.ix (.ix (.var i x) (.str key)) (.int 0)) .nil))) s = true) :
    PS X s (fun D σ H => ∃ (a : Addr) (kvs : List (Key × V)) (l : Addr) (n : Int) (ns : List Int), σ[i]? = some (some (.ref a)) ∧ H a = some (.dK kvs) ∧ valV kvs (.inr key) = some (.ref l) ∧ H l = some (.lst ((n :: ns).map V.int)) ∧ D.nx (σ.set j (some (.int n))) H) := by
  obtain ⟨p, v, q, rfl, hl, he⟩ := ivs_asg h
  have hn : noComp v = true := by obtain ⟨f, p, y, ys, q, rfl, _⟩ := inv_bi he; rfl
  refine (ps_set' ok hl hn (pe_int1 ok he fun y hy => pe_key0 ok hy)).weak fun D σ H ⟨a, kvs, l, n, ns, e1, e2, e3, e4, q⟩ => ?_
  exact ⟨a, kvs, l, n, ns, e1, e2, e3, e4, .inl ⟨n, rfl, q⟩⟩
/-- m[key][0] = rest // many -/
theorem ps_put0 {i j j2 : Nat} {x key z z2 : Str} {s : Stmt} (ok : XOk Γ xcl W N sc st k X) (h : isS N sc st exc (.sub (.ix (.var i x) (.str key)) (.int 0) (.bin .fdiv (.var j z) (.var j2 z2))) s = true) :
    PS X s (fun D σ H => ∃ (a : Addr) (kvs : List (Key × V)) (l : Addr) (n : Int) (ns : List Int) (r w : Int), σ[i]? = some (some (.ref a)) ∧ H a = some (.dK kvs) ∧ valV kvs (.inr key) = some (.ref l) ∧ H l = some (.lst ((n :: ns).map V.int)) ∧ σ[j]? = some (some (.int r)) ∧ σ[j2]? = some (some (.int w)) ∧ 0 < w ∧ w < 1073741824 ∧
      D.nx σ (upd H l (.lst ((r.fdiv w :: ns).map V.int)))) := by
  obtain ⟨y, kx, q, v, r, rfl, hs, hy, hk, he⟩ := ivs_sub h
  obtain ⟨b, c, p, rfl, hb, hc⟩ := inv_bin he
  obtain ⟨j0, p2, rfl⟩ := inv_int hk
  refine (ps_asg (pe_op op_fdivN (pe_v ok hb) (pe_v ok hc)) (pg_sub (pe_key ok hy) pe_int L2.set_list (asg_sub hs)) rfl rfl rfl).weak fun D σ H ⟨a, kvs, l, n, ns, r, w, e1, e2, e3, e4, e5, e6, w0, w1, q⟩ => ?_
  refine ⟨.int r, e5, .int w, e6, r, w, rfl, rfl, ⟨by omega, by omega⟩, a, kvs, .ref l, e1, e2, e3, l, _, 0, 0, rfl, rfl, e4, by simp [ixN], q⟩
/-- return rest % many -/
theorem ps_retMod {j j2 : Nat} {z z2 : Str} {s : Stmt} (ok : XOk Γ xcl W N sc st k X) (h : isS N sc st exc (.ret (.bin .mod (.var j z) (.var j2 z2))) s = true) :
    PS X s (fun D σ H => ∃ (r w : Int), σ[j]? = some (some (.int r)) ∧ σ[j2]? = some (some (.int w)) ∧ w ≠ 0 ∧ D.rt (.int (r.fmod w)) H) := by
  obtain ⟨v, p, rfl, he⟩ := ivs_ret h
  obtain ⟨b, c, p, rfl, hb, hc⟩ := inv_bin he
  exact (ps_ret (pe_op op_modN (pe_v ok hb) (pe_v ok hc))).weak fun D σ H ⟨r, w, e5, e6, w0, q⟩ => ⟨.int r, e5, .int w, e6, r, w, rfl, rfl, w0, q⟩
/-- k = m[key] + 1 -/
theorem ps_incr {i j : Nat} {x key z : Str} {s : Stmt} (ok : XOk Γ xcl W N sc st k X) (h : isS N sc st exc (.asg (.nm j z) (.bin .add (.ix (.var i x) (.str key)) (.int 1))) s = true) :
    PS X s (fun D σ H => ∃ (a : Addr) (kvs : List (Key × V)) (n : Int), σ[i]? = some (some (.ref a)) ∧ H a = some (.dK kvs) ∧ valV kvs (.inr key) = some (.int n) ∧ D.nx (σ.set j (some (.int (n + 1)))) H) := by
  obtain ⟨p, v, q, rfl, hl, he⟩ := ivs_asg h
  obtain ⟨b, c, p2, rfl, hb, hc⟩ := inv_bin he
  obtain ⟨j0, p3, rfl⟩ := inv_int hc
  refine (ps_set' ok hl rfl (pe_op op_addM (pe_key ok hb) pe_int)).weak fun D σ H ⟨a, kvs, n, e1, e2, e3, q⟩ => ?_
  exact ⟨a, kvs, .int n, e1, e2, e3, .inl (.inl (.inl ⟨n, 1, rfl, rfl, q⟩))⟩
/-- m[key] = k -/
theorem ps_putV {i j : Nat} {x key z : Str} {s : Stmt} (ok : XOk Γ xcl W N sc st k X) (h : isS N sc st exc (.setIx i x (.str key) (.var j z)) s = true) :
    PS X s (fun D σ H => ∃ (a : Addr) (kvs : List (Key × V)) (v : V), σ[i]? = some (some (.ref a)) ∧ H a = some (.dK kvs) ∧ kvs.length < sizeLine ∧ σ[j]? = some (some v) ∧ D.nx σ (upd H a (.dK (putK kvs (.inr key) v)))) := by
  have hu : X.A.units + 64 < cLine := by have := ok.room.un; omega
  obtain ⟨p, kx, q, v, r, rfl, hv, hs, hk, he⟩ := ivs_setIx h
  obtain ⟨j, p2, rfl⟩ := inv_str hk
  obtain ⟨p3, rfl, hw⟩ := inv_var he
  obtain ⟨h1, h2, h3, h4⟩ := var_of ok hv
  obtain ⟨g1, g2, g3, g4⟩ := var_of ok hw
  refine (ps_dput (by omega) (pe_var h1 h2 h3 h4) pe_str (pe_var g1 g2 g3 g4) rfl).weak fun D σ H ⟨a, kvs, v, e1, e2, hz, e3, q⟩ => ?_
  exact ⟨v, e3, .ref a, e1, a, _, rfl, DPut.k (k := .inr key) e2 hz, q⟩
/-- cell = m[key][int(k) % len(m[key])] if m[key] != [] else 3 -/
theorem ps_cell {i j j2 : Nat} {x key z z2 : Str} {s : Stmt} (ok : XOk Γ xcl W N sc st k X)
    (h : isS N sc st exc (.asg (.nm j z) (.ite (.e (.cmp .ne (.ix (.var i x) (.str key)) (.lst .nil))) (.ix (.ix (.var i x) (.str key)) (.bin .mod (.bi .int (.cons (.var j2 z2) .nil)) (.bi .len (.cons (.ix (.var i x) (.str key)) .nil)))) (.int 3))) s = true) :
    PS X s (fun D σ H => ∃ (a : Addr) (kvs : List (Key × V)) (l : Addr) (ns : List Int) (n : Int), σ[i]? = some (some (.ref a)) ∧ H a = some (.dK kvs) ∧ valV kvs (.inr key) = some (.ref l) ∧ H l = some (.lst (ns.map V.int)) ∧ σ[j2]? = some (some (.int n)) ∧
      ∀ p, H p = none → D.nx (σ.set j (some (.int (if ns.isEmpty then 3 else ns.getD (n.fmod ns.length).toNat 0)))) (upd H p (.lst []))) := by
  obtain ⟨p, v, q, rfl, hl, he⟩ := ivs_asg h
  obtain ⟨c, y, b, p2, rfl, hc, hy, hb⟩ := inv_ite he
  obtain ⟨hc, _⟩ := inv_te hc
  obtain ⟨j0, p3, rfl⟩ := inv_int hb
  obtain ⟨o, ix, p4, rfl, hs, ho, hi⟩ := inv_ix hy
  obtain ⟨u, w, p5, rfl, hu, hw⟩ := inv_bin hi
  refine (ps_set' ok hl rfl (pe_ifExp (pt_ne ok hc) (pe_ix ix_seq (pe_key ok ho) (pe_op op_modN (pe_int1 ok hu fun y hy => pe_v ok hy) (pe_len1 ok hw fun y hy => pe_key ok hy)) (plainIx_of hs)) pe_int)).weak fun D σ H ⟨a, kvs, l, ns, n, e1, e2, e3, e4, e5, q⟩ => ?_
  refine ⟨a, kvs, l, ns, e1, e2, e3, e4, fun p hp => ?_⟩
  cases ns with
  | nil => exact iteF (q p hp)
  | cons n0 r =>
    have e2' := Same.lay (o := .lst []) hp _ _ e2
    have e4' := Same.lay (o := .lst []) hp _ _ e4
    have hpos : (0 : Int) < ((n0 :: r).length : Nat) := by simp only [List.length_cons]; omega
    have hm0 := Int.fmod_nonneg_of_pos n hpos
    have hm1 := Int.fmod_lt_of_pos n hpos
    refine iteT ⟨a, kvs, .ref l, e1, e2', e3, .int n, e5, .inl ⟨n, rfl, a, kvs, .ref l, e1, e2', e3, (n0 :: r).length, ?_, .inl ⟨l, _, rfl, .inl (.inl (.inl e4')), by simp⟩⟩⟩
    refine ⟨n, ((n0 :: r).length : Nat), rfl, rfl, by omega, .inl ⟨l, _, _, .int ((n0 :: r).getD (n.fmod ((n0 :: r).length : Nat)).toNat 0), rfl, rfl, .inl (.inl e4'), ?_, q p hp⟩⟩
    unfold atI ixN
    rw [if_pos hm0, if_pos (by rw [List.length_map]; exact hm1)]
    have hlt : (n.fmod ((n0 :: r).length : Nat)).toNat < (n0 :: r).length := by omega
    show ((n0 :: r).map V.int)[_]? = _
    rw [List.getElem?_map, List.getD_eq_getElem?_getD, List.getElem?_eq_getElem hlt]
    rfl
end
end Mini

set_option Elab.async false
set_option linter.all false
set_option maxRecDepth 100000
set_option maxHeartbeats 4000000
namespace Mini
open PySem PySem.Spec PyProof.Rows L2
/-! ### what a draw does -/
def skip0 : List Int → List Int
  | [] => []
  | n :: r => if n == 0 then skip0 r else n :: r
def cellAt (cs : List Int) (k : Int) : Int := if cs.isEmpty then 3 else cs.getD (k.fmod cs.length).toNat 0
def mix1 (cell k : Int) : Int := (cell.fmod 2147483629 + 7919 * k + 19 * k * k) * 48271
def mix2 (cell k : Int) : Int := ((mix1 cell k).fmod 2147483647 + 104729 * k) * 69621
def mixed (cell k : Int) : Int := ((mix2 cell k).fmod 2147483587).fdiv 11
def nextD (d : Draw) (w : Int) : Int × Draw := match skip0 d.left with
  | n :: r => (n.fmod w, ⟨d.cells, n.fdiv w :: r, d.count⟩)
  | [] => ((mixed (cellAt d.cells (d.count + 1)) (d.count + 1)).fmod w, ⟨d.cells, [], d.count + 1⟩)
def nextOk (d : Draw) (w : Int) : Bool := decide (0 < w) && decide (w < 1073741824) && decide (0 ≤ d.count) && decide (d.count < 1152921504606846976)
def nextP : List Val → Option Draw → FOut
  | [.drw, .d (.int w)], some d => if nextOk d w then .ok (.d (.int (nextD d w).1)) (some (nextD d w).2) else .no
  | _, _ => .no
/-! ### its text -/
def mE : E := .var 0 "m"
def leftE : E := .ix (.var 0 "m") (.str "left")
def cellsE : E := .ix (.var 0 "m") (.str "cells")
def kE : E := .var 3 "k"
def one (e : E) : Es := .cons e .nil
def tail0 : S := .asg (.nm 5 "mixed") (.bin .mul (.bi .int (one (.bin .add (.bin .add (.bin .mod (.bi .int (one (.var 4 "cell"))) (.int 2147483629)) (.bin .mul (.int 7919) kE)) (.bin .mul (.bin .mul (.int 19) kE) kE)))) (.int 48271))
def tail1 : S := .asg (.nm 5 "mixed") (.bin .mul (.bi .int (one (.bin .add (.bin .mod (.bi .int (one (.var 5 "mixed"))) (.int 2147483647)) (.bin .mul (.int 104729) kE)))) (.int 69621))
def tail2 (q : Str) : S := .ret (.bin .mod (.bi .int (one (.bin .fdiv (.bin .mod (.bi .int (one (.var 5 "mixed"))) (.int 2147483587)) (.int 11)))) (.var 1 q))
def tailS (q : Str) : Ss := .cons tail0 (.cons tail1 (.cons (tail2 q) .nil))
def nextS (q : Str) : Ss :=
  .cons (.whl (.and (.cons (.e (.cmp .ne leftE (.lst .nil))) (.cons (.e (.cmp .eq (.ix leftE (.int 0)) (.int 0))) .nil))) (.cons (.setIx 0 "m" (.str "left") (.sl leftE (.some (.int 1)) .none)) .nil))
  (.cons (.ite (.e (.cmp .ne leftE (.lst .nil))) (.cons (.asg (.nm 2 "rest") (.bi .int (one (.ix leftE (.int 0))))) (.cons (.sub leftE (.int 0) (.bin .fdiv (.var 2 "rest") (.var 1 q))) (.cons (.ret (.bin .mod (.var 2 "rest") (.var 1 q))) .nil))) .nil)
  (.cons (.asg (.nm 3 "k") (.bin .add (.ix (.var 0 "m") (.str "at")) (.int 1)))
  (.cons (.setIx 0 "m" (.str "at") (.var 3 "k"))
  (.cons (.asg (.nm 4 "cell") (.ite (.e (.cmp .ne cellsE (.lst .nil))) (.ix cellsE (.bin .mod (.bi .int (one (.var 3 "k"))) (.bi .len (one cellsE)))) (.int 3)))
  (tailS q)))))
def nextFd (q : Str) : Fd := ⟨["m", q], ["m", q, "rest", "k", "cell", "mixed"], nextS q⟩
theorem small_of {k : Int} (h0 : 0 ≤ k) (h1 : k ≤ 1152921504606846976) : small k = true := by
  unfold small
  rw [Bool.and_eq_true, decide_eq_true_eq, decide_eq_true_eq]
  omega
theorem mulD_l {i j : Int} (h : small i = true) : mulD (.int i) (.int j) = some (int (i * j)) := by
  show (if small i || small j then some (int (i * j)) else none) = _
  rw [h]; rfl
theorem mulD_r {i j : Int} (h : small j = true) : mulD (.int i) (.int j) = some (int (i * j)) := by
  show (if small i || small j then some (int (i * j)) else none) = _
  rw [h, Bool.or_true]; rfl
/-! ### the interpreter, step by step -/
section
variable {Γ : Env} {S S1 S2 : Sta} {m : Bool}
theorem bind_ok {α β : Type} {mm : M α} {f : α → M β} {a : α} (h : mm S = .ok a S1) : M.bind mm f S = f a S1 := by unfold M.bind; rw [h]
theorem bind_of {α β : Type} {o : Option α} {f : α → M β} {a : α} (h : o = some a) : M.bind (M.of o) f S = f a S := by subst h; rfl
theorem ev_bin {op : BOp} {a b : E} {x y v : Val} (h1 : ev Γ a false S = .ok x S1) (h2 : ev Γ b false S1 = .ok y S2) (h3 : binV op x y = some v) : ev Γ (.bin op a b) m S = .ok v S2 := by
  show M.bind (ev Γ a false) (fun x => M.bind (ev Γ b false) fun y => M.of (binV op x y)) S = _
  rw [bind_ok h1, bind_ok h2, h3]; rfl
theorem ev_var {i : Nat} {x : Str} {v : Val} (h : S.ρ[i]? = some (some v)) : ev Γ (.var i x) false S = .ok v S := by
  show getSlot i S = _
  unfold getSlot; rw [h]
theorem ev_int (n : Int) : ev Γ (.int n) m S = .ok (int n) S := rfl
theorem ev_bi1 {b : Bi} {a : E} {x v : Val} (h1 : ev Γ a false S = .ok x S1) (h3 : bi1 b x = some v) : ev Γ (.bi b (.cons a .nil)) m S = .ok v S1 := by
  show M.bind (M.bind (ev Γ a false) fun v => M.bind (M.ret []) fun r => M.ret (v :: r)) (fun vs => M.of (biV b vs)) S = _
  have e : (M.bind (ev Γ a false) fun v => M.bind (M.ret []) fun r => M.ret (v :: r)) S = .ok [x] S1 := by rw [bind_ok h1]; rfl
  rw [bind_ok e]; show M.of (bi1 b x) S1 = _; rw [h3]; rfl
theorem ex_asg {i : Nat} {x : Str} {e : E} {v : Val} (h : ev Γ e true S = .ok v S1) (hi : i < S1.ρ.length) : exec Γ (.asg (.nm i x) e) S = .ok .nx ⟨S1.ρ.set i (some v), S1.dr⟩ := by
  show M.bind (ev Γ e true) (fun v => M.bind (setSlot i v) fun _ => M.ret Flw.nx) S = _
  rw [bind_ok h, bind_ok (mm := setSlot i v) (show setSlot i v S1 = .ok () ⟨S1.ρ.set i (some v), S1.dr⟩ by unfold setSlot; rw [if_pos hi])]; rfl
theorem ex_ret {e : E} {v : Val} (h : ev Γ e true S = .ok v S1) : exec Γ (.ret e) S = .ok (.rt v) S1 := by
  show M.bind (ev Γ e true) (fun v => M.ret (Flw.rt v)) S = _
  rw [bind_ok h]; rfl
theorem exs_nx {s : Mini.S} {r : Ss} {o : Out Flw} (h : exec Γ s S = .ok .nx S1) (h2 : execs Γ r S1 = o) : execs Γ (.cons s r) S = o := by
  show M.bind (exec Γ s) (fun f => match f with | .nx => execs Γ r | f => M.ret f) S = _
  rw [bind_ok h]; exact h2
theorem exs_rt {s : Mini.S} {r : Ss} {v : Val} (h : exec Γ s S = .ok (.rt v) S1) : execs Γ (.cons s r) S = .ok (.rt v) S1 := by
  show M.bind (exec Γ s) (fun f => match f with | .nx => execs Γ r | f => M.ret f) S = _
  rw [bind_ok h]; rfl
end
theorem binV_add {i j : Int} : binV .add (int i) (int j) = some (int (i + j)) := rfl
theorem binV_mod {i j : Int} (h : j ≠ 0) : binV .mod (int i) (int j) = some (int (i.fmod j)) := if_neg h
theorem binV_fdiv {i j : Int} (h0 : 0 < j) (h1 : j < 1073741824) : binV .fdiv (int i) (int j) = some (int (i.fdiv j)) := by
  show (if decide (0 < j) && decide (j < 1073741824) then some (int (i.fdiv j)) else none) = _
  rw [decide_eq_true h0, decide_eq_true h1]; rfl
theorem binV_mulL {i j : Int} (h : small i = true) : binV .mul (int i) (int j) = some (int (i * j)) := mulD_l h
theorem binV_mulR {i j : Int} (h : small j = true) : binV .mul (int i) (int j) = some (int (i * j)) := mulD_r h
theorem bi1_int {i : Int} : bi1 .int (int i) = some (int i) := rfl
theorem tail_run {Γ : Env} {q : Str} {w k cell : Int} {x0 x2 x5 : Option Val} {dr : Option Draw} (hw : w ≠ 0) (hk : small k = true) :
    execs Γ (tailS q) ⟨[x0, some (int w), x2, some (int k), some (int cell), x5], dr⟩ = .ok (.rt (int ((mixed cell k).fmod w))) ⟨[x0, some (int w), x2, some (int k), some (int cell), some (int (mix2 cell k))], dr⟩ := by
  refine exs_nx (ex_asg (ev_bin (ev_bi1 (ev_bin (ev_bin (ev_bin (ev_bi1 (ev_var rfl) bi1_int) (ev_int _) (binV_mod (by decide))) (ev_bin (ev_int _) (ev_var rfl) (binV_mulR hk)) binV_add) (ev_bin (ev_bin (ev_int _) (ev_var rfl) (binV_mulR hk)) (ev_var rfl) (binV_mulR hk)) binV_add) bi1_int) (ev_int _) (binV_mulR (by decide))) (by simp)) ?_
  refine exs_nx (ex_asg (ev_bin (ev_bi1 (ev_bin (ev_bin (ev_bi1 (ev_var rfl) bi1_int) (ev_int _) (binV_mod (by decide))) (ev_bin (ev_int _) (ev_var rfl) (binV_mulR hk)) binV_add) bi1_int) (ev_int _) (binV_mulR (by decide))) (by simp)) ?_
  exact exs_rt (ex_ret (ev_bin (ev_bi1 (ev_bin (ev_bin (ev_bi1 (ev_var rfl) bi1_int) (ev_int _) (binV_mod (by decide))) (ev_int _) (binV_fdiv (by decide) (by decide))) bi1_int) (ev_var rfl) (binV_mod hw)))
end Mini

set_option Elab.async false
set_option linter.all false
set_option maxRecDepth 100000
set_option maxHeartbeats 4000000
namespace Mini
open PySem PySem.Spec PyProof.Rows L2
/-! ### the heap while a draw is made -/
abbrev drK (c l : Addr) (n : Int) : List (Key × V) := [(.inr "cells", .ref c), (.inr "left", .ref l), (.inr "at", .int n)]
theorem drK_cells {c l : Addr} {n : Int} : valV (drK c l n) (.inr "cells") = some (.ref c) := by simp [valV]
theorem key_ne1 : ¬ ((.inr "cells" : Key) = .inr "left") := by decide
theorem key_ne2 : ¬ ((.inr "cells" : Key) = .inr "at") := by decide
theorem key_ne3 : ¬ ((.inr "left" : Key) = .inr "at") := by decide
theorem drK_left {c l : Addr} {n : Int} : valV (drK c l n) (.inr "left") = some (.ref l) := by
  rw [valV_neg key_ne1, valV_pos rfl]
theorem drK_at {c l : Addr} {n : Int} : valV (drK c l n) (.inr "at") = some (.int n) := by
  rw [valV_neg key_ne2, valV_neg key_ne3, valV_pos rfl]
theorem putK_left {c l l' : Addr} {n : Int} : putK (drK c l n) (.inr "left") (.ref l') = drK c l' n := by
  unfold putK drK
  rfl
theorem putK_at {c l : Addr} {n n' : Int} : putK (drK c l n) (.inr "at") (.int n') = drK c l n' := by
  unfold putK drK
  rfl
abbrev CP (Hf H0 : Hp) (L0 : Loc3) (a c : Addr) (H : Hp) (l : Addr) (d : Draw) : Prop := CallPost Hf H0 L0 Hf H (some (a, l, c)) (some d)
section
variable {Hf H0 H : Hp} {L0 : Loc3} {a c l : Addr} {d : Draw}
theorem CP.at (h : CP Hf H0 L0 a c H l d) : H a = some (.dK (drK c l d.count)) ∧ H c = some (.lst (d.cells.map V.int)) ∧ H l = some (.lst (d.left.map V.int)) ∧ l ≠ c ∧ Hf a = none ∧ Hf l = none := by
  obtain ⟨⟨h1, h2, h3, h4⟩, h5, h6⟩ := h.dr
  exact ⟨h1, h2, h3, h4, h5, h6⟩
theorem CP.lay (h : CP Hf H0 L0 a c H l d) {q : Addr} {o : HO} (hq : H q = none) : CP Hf H0 L0 a c (upd H q o) l d := by
  have k : ∀ b o', H b = some o' → upd H q o b = some o' := fun b o' e => Same.lay hq b o' e
  exact ⟨h.hf, fun b o' e => k b o' (h.sub b o' e), fun b o' e n => k b o' (h.keep b o' e n), fun b o' e => let ⟨o2, e2⟩ := h.ex b o' e; ⟨o2, k b o2 e2⟩, h.nf, h.drA, h.drk, h.l, h.dr.lay (fun b o' e _ => k b o' e) fun _ _ z => z⟩
theorem CP.na (h : CP Hf H0 L0 a c H l d) {b : Addr} {o : HO} (hb : H0 b = some o) (n : ¬ Dr L0 b) : b ≠ a ∧ b ≠ l := by
  refine ⟨fun z => ?_, fun z => ?_⟩
  · rcases h.drk b (.inl z) with y | y
    · exact n y
    · rw [hb] at y; cases y
  · rcases h.drk b (.inr z) with y | y
    · exact n y
    · rw [hb] at y; cases y
/-- a new list of what is left -/
theorem CP.left (h : CP Hf H0 L0 a c H l d) {q : Addr} {ls : List Int} (hq : H q = none) : CP Hf H0 L0 a c (upd (upd H q (.lst (ls.map V.int))) a (.dK (drK c q d.count))) q ⟨d.cells, ls, d.count⟩ := by
  obtain ⟨h1, h2, h3, h4, h5, h6⟩ := h.at
  have qa : q ≠ a := fun z => by rw [z, h1] at hq; cases hq
  have qc : q ≠ c := fun z => by rw [z, h2] at hq; cases hq
  have ca : c ≠ a := fun z => by rw [z, h1] at h2; cases h2
  have q0 : H0 q = none := by
    cases e : H0 q with
    | none => rfl
    | some o => obtain ⟨o', e'⟩ := h.ex q o e; rw [hq] at e'; cases e'
  have qf : Hf q = none := by
    cases e : Hf q with
    | none => rfl
    | some o => rw [h.sub q o e] at hq; cases hq
  have k : ∀ b o', H b = some o' → b ≠ a → upd (upd H q (.lst (ls.map V.int))) a (.dK (drK c q d.count)) b = some o' := fun b o' e n => by
    rw [upd_ne n]; exact Same.lay hq b o' e
  refine ⟨h.hf, fun b o' e => k b o' (h.sub b o' e) fun z => (by rw [z, h5] at e; cases e), fun b o' e n => k b o' (h.keep b o' e n) (h.na e n).1, fun b o' e => ?_, h.nf, fun b hb => ?_, fun b hb => ?_, ?_, ⟨⟨upd_same, k c _ h2 ca, ?_, qc⟩, h5, qf⟩⟩
  · by_cases z : b = a
    · exact ⟨_, by rw [z]; exact upd_same⟩
    · obtain ⟨o2, e2⟩ := h.ex b o' e
      exact ⟨o2, k b o2 e2 z⟩
  · rcases hb with e | e | e
    · exact h.drA b (.inl e)
    · exact .inr (by rw [e]; exact q0)
    · exact h.drA b (.inr (.inr e))
  · rcases hb with e | e
    · exact h.drk b (.inl e)
    · exact .inr (by rw [e]; exact q0)
  · have := h.l
    match L0, this with
    | none, _ => trivial
    | some (a0, l0, c0), ⟨l', e⟩ => cases e; exact ⟨q, rfl⟩
  · rw [upd_ne qa]; exact upd_same
/-- the list of what is left, changed -/
theorem CP.set (h : CP Hf H0 L0 a c H l d) {ls : List Int} : CP Hf H0 L0 a c (upd H l (.lst (ls.map V.int))) l ⟨d.cells, ls, d.count⟩ := by
  obtain ⟨h1, h2, h3, h4, h5, h6⟩ := h.at
  have la : a ≠ l := fun z => by rw [← z, h1] at h3; cases h3
  have k : ∀ b o', H b = some o' → b ≠ l → upd H l (.lst (ls.map V.int)) b = some o' := fun b o' e n => by
    rw [upd_ne n]; exact e
  refine ⟨h.hf, fun b o' e => k b o' (h.sub b o' e) fun z => (by rw [z, h6] at e; cases e), fun b o' e n => k b o' (h.keep b o' e n) (h.na e n).2, fun b o' e => ?_, h.nf, h.drA, h.drk, h.l, ⟨⟨k a _ h1 la, k c _ h2 (Ne.symm h4), upd_same, h4⟩, h5, h6⟩⟩
  by_cases z : b = l
  · exact ⟨_, by rw [z]; exact upd_same⟩
  · obtain ⟨o2, e2⟩ := h.ex b o' e
    exact ⟨o2, k b o2 e2 z⟩
/-- the count, changed -/
theorem CP.cnt (h : CP Hf H0 L0 a c H l d) {n : Int} : CP Hf H0 L0 a c (upd H a (.dK (drK c l n))) l ⟨d.cells, d.left, n⟩ := by
  obtain ⟨h1, h2, h3, h4, h5, h6⟩ := h.at
  have la : l ≠ a := fun z => by rw [z, h1] at h3; cases h3
  have ca : c ≠ a := fun z => by rw [z, h1] at h2; cases h2
  have k : ∀ b o', H b = some o' → b ≠ a → upd H a (.dK (drK c l n)) b = some o' := fun b o' e n => by
    rw [upd_ne n]; exact e
  refine ⟨h.hf, fun b o' e => k b o' (h.sub b o' e) fun z => (by rw [z, h5] at e; cases e), fun b o' e n => k b o' (h.keep b o' e n) (h.na e n).1, fun b o' e => ?_, h.nf, h.drA, h.drk, h.l, ⟨⟨upd_same, k c _ h2 ca, k l _ h3 la, h4⟩, h5, h6⟩⟩
  by_cases z : b = a
  · exact ⟨_, by rw [z]; exact upd_same⟩
  · obtain ⟨o2, e2⟩ := h.ex b o' e
    exact ⟨o2, k b o2 e2 z⟩
theorem CP.sim {w : World} {K : PySem.W.Frag} (h : CP Hf H0 L0 a c H l d) {ρ : List (Option Val)} {σ : L2.St} (hl : ρ.length = σ.length) (hs : ∀ (i : Nat) (v : Val), ρ[i]? = some (some v) → v.owned = false ∧ ∃ u, σ[i]? = some (some u) ∧ RV w K Hf H (some (a, l, c)) u v) :
    Sim w K ⟨H0, Hf, L0⟩ ⟨⟨ρ, some d⟩, Hf, some (a, l, c)⟩ H σ :=
  ⟨h.sub, hl, fun i v e => (hs i v e).2, fun b ⟨i, v, h1, h2, _⟩ => (by rw [(hs i v h1).1] at h2; cases h2), fun i j v v' a _ h1 _ o1 _ _ _ => (by rw [(hs i v h1).1] at o1; cases o1), h.dr, h.drk, h.drA, h.keep, h.nf, h.hf, h.ex, h.l⟩
end
end Mini

set_option Elab.async false
set_option linter.all false
set_option maxRecDepth 100000
set_option maxHeartbeats 4000000
namespace Mini
open PySem PySem.Spec PyProof.Rows L2
/-! ### _law_next -/
theorem skip_idem : ∀ ls : List Int, skip0 ls = [] ∨ ∃ n r, skip0 ls = n :: r ∧ n ≠ 0
  | [] => .inl rfl
  | n :: r => by
    unfold skip0
    by_cases h : n = 0
    · rw [if_pos (by rw [h]; rfl)]; exact skip_idem r
    · rw [if_neg (by simpa using h)]; exact .inr ⟨n, r, rfl, h⟩
def nextR (q : Str) : Ss :=
  .cons (.ite (.e (.cmp .ne leftE (.lst .nil))) (.cons (.asg (.nm 2 "rest") (.bi .int (one (.ix leftE (.int 0))))) (.cons (.sub leftE (.int 0) (.bin .fdiv (.var 2 "rest") (.var 1 q))) (.cons (.ret (.bin .mod (.var 2 "rest") (.var 1 q))) .nil))) .nil)
  (.cons (.asg (.nm 3 "k") (.bin .add (.ix (.var 0 "m") (.str "at")) (.int 1)))
  (.cons (.setIx 0 "m" (.str "at") (.var 3 "k"))
  (.cons (.asg (.nm 4 "cell") (.ite (.e (.cmp .ne cellsE (.lst .nil))) (.ix cellsE (.bin .mod (.bi .int (one (.var 3 "k"))) (.bi .len (one cellsE)))) (.int 3)))
  (tailS q))))
theorem sizeLine_big : 3 < sizeLine := by decide
section
variable {X : Cx} {Γ : Env} {xcl : Str → Option Addr} {fx : Fx} {W : WX} {N : List Str} {sc : Scope} {st : Str → Bool} {k : Nat} {pos : Pos}
theorem next_rest {q : Str} {body : List Stmt} (ok : XOk Γ xcl W N sc st k X) (ec : EcOk X Γ xcl) (xf : XFn X) (h : isSs N sc st Γ.exc (nextR q) body = true) :
    ∃ t, PSs X body t ∧ ∀ (D : Ends) (a c l : Addr) (d : Draw) (w : Int) (H : Hp), CP fx.Hf0 fx.H0 fx.L0 a c H l d → nextOk d w = true → skip0 d.left = d.left → (∀ H' Hf' L', CallPost fx.Hf0 fx.H0 fx.L0 Hf' H' L' (some (nextD d w).2) → D.rt (.int (nextD d w).1) H') →
      t D [some (.ref a), some (.int w), none, none, none, none] H := by
  obtain ⟨x2, r2, rfl, h2, h⟩ := ivs_cons h
  obtain ⟨x3, r3, rfl, h3, h⟩ := ivs_cons h
  obtain ⟨x4, r4, rfl, h4, h⟩ := ivs_cons h
  obtain ⟨x5, r5, rfl, h5, h6⟩ := ivs_cons h
  obtain ⟨c2, b2, b3, p3, rfl, hc2, hb2, hb3⟩ := ivs_ite h2
  cases ivs_nil hb3
  obtain ⟨z1, zs, rfl, hz1, hzs⟩ := ivs_cons hb2
  obtain ⟨z2, zs, rfl, hz2, hzs⟩ := ivs_cons hzs
  obtain ⟨z3, zs, rfl, hz3, hzs⟩ := ivs_cons hzs
  cases ivs_nil hzs
  refine ⟨_, pss_cons (ps_if (pt_ne ok (inv_te hc2).1) (pss_cons (ps_rest ok hz1) (pss_cons (ps_put0 ok hz2) (pss_cons (ps_retMod ok hz3) pss_nil))) pss_nil)
    (pss_cons (ps_incr ok h3) (pss_cons (ps_putV ok h4) (pss_cons (ps_cell ok h5) (soundSs Γ xcl fx N (tailS q) ok ec xf h6)))), fun D a c l d w H cp hw hs hq => ?_⟩
  unfold nextOk at hw
  simp only [Bool.and_eq_true, decide_eq_true_eq] at hw
  obtain ⟨⟨⟨w0, w1⟩, k0⟩, k1⟩ := hw
  obtain ⟨e1, e2, e3, e4, e5, e6⟩ := cp.at
  refine ⟨a, _, l, d.left, rfl, e1, drK_left, e3, fun p hp => ?_⟩
  have cp1 := cp.lay (o := .lst []) hp
  obtain ⟨e1, e2, e3, e4, e5, e6⟩ := cp1.at
  unfold nextD at hq
  rw [hs] at hq
  cases hl : d.left with
  | cons n r =>
    rw [hl] at hq e3
    refine iteT ⟨a, _, l, n, r, rfl, e1, drK_left, e3, a, _, l, n, r, n, w, rfl, e1, drK_left, e3, rfl, rfl, w0, w1, n, w, rfl, rfl, by omega, hq _ fx.Hf0 (some (a, l, c)) ?_⟩
    exact cp1.set (ls := n.fdiv w :: r)
  | nil =>
    rw [hl] at hq
    refine iteF ⟨a, _, d.count, rfl, e1, drK_at, a, _, .int (d.count + 1), rfl, e1, sizeLine_big, rfl, ?_⟩
    rw [putK_at]
    have cp2 := cp1.cnt (n := d.count + 1)
    obtain ⟨e1, e2, e3, e4, e5, e6⟩ := cp2.at
    refine ⟨a, _, c, d.cells, d.count + 1, rfl, e1, drK_cells, e2, rfl, fun p2 hp2 => ?_⟩
    have cp3 := cp2.lay (o := .lst []) hp2
    refine ⟨⟨⟨[some .drw, some (int w), none, some (int (d.count + 1)), some (int (cellAt d.cells (d.count + 1))), none], some ⟨d.cells, d.left, d.count + 1⟩⟩, fx.Hf0, some (a, l, c)⟩, CP.sim cp3 rfl fun i v hv => ?_, ?_⟩
    · match i, hv with
      | 0, hv => cases hv; exact ⟨rfl, _, rfl, a, l, c, rfl, rfl⟩
      | 1, hv => cases hv; exact ⟨rfl, _, rfl, Rp.int _⟩
      | 2, hv => cases hv
      | 3, hv => cases hv; exact ⟨rfl, _, rfl, Rp.int _⟩
      | 4, hv => cases hv; exact ⟨rfl, _, rfl, Rp.int _⟩
      | 5, hv => cases hv
      | _ + 6, hv => cases hv
    · show OutP (execs Γ (tailS q) _) _ _
      rw [tail_run (by omega) (small_of (by omega) (by omega))]
      intro u σ' H' p' e s' sm rv ow
      cases rv
      have po := post_of s' sm
      rw [e] at po
      have ed : (some ⟨d.cells, d.left, d.count + 1⟩ : Option Draw) = some ⟨d.cells, [], d.count + 1⟩ := by rw [hl]
      exact hq H' p'.Hf p'.L (ed ▸ po)
theorem next_body {q : Str} {body : List Stmt} (ok : XOk Γ xcl W N sc st k X) (ec : EcOk X Γ xcl) (xf : XFn X) (h : isSs N sc st Γ.exc (nextS q) body = true) :
    ∃ t, PSs X body t ∧ ∀ (D : Ends) (a c l : Addr) (d : Draw) (w : Int) (H : Hp), CP fx.Hf0 fx.H0 fx.L0 a c H l d → nextOk d w = true → (∀ H' Hf' L', CallPost fx.Hf0 fx.H0 fx.L0 Hf' H' L' (some (nextD d w).2) → D.rt (.int (nextD d w).1) H') →
      t D [some (.ref a), some (.int w), none, none, none, none] H := by
  obtain ⟨x1, r1, rfl, h1, h⟩ := ivs_cons h
  obtain ⟨u, hu, hur⟩ := next_rest (q := q) (fx := fx) ok ec xf h
  obtain ⟨c1, b1, p1, rfl, hc1, hb1⟩ := ivs_whl h1
  obtain ⟨xs, p2, rfl, hts, _⟩ := inv_tand hc1
  obtain ⟨ta, ys, rfl, hta, hts⟩ := inv_tcons hts
  obtain ⟨tb, zs, rfl, htb, hts⟩ := inv_tcons hts
  cases inv_tnil hts
  obtain ⟨y1, ys, rfl, hy1, hys⟩ := ivs_cons hb1
  cases ivs_nil hys
  refine ⟨_, pss_cons (ps_while ok.po (pw_and (pt_ne ok (inv_te hta).1) (pw_and1 (pt_eq0 ok (inv_te htb).1))).pt (pss_one (ps_cut ok hy1))) hu, fun D a c l d w H cp hw hq => ?_⟩
  have done : ∀ (H' : Hp) (l' : Addr) (ls : List Int), CP fx.Hf0 fx.H0 fx.L0 a c H' l' ⟨d.cells, ls, d.count⟩ → skip0 ls = ls → ls = skip0 d.left → u D [some (.ref a), some (.int w), none, none, none, none] H' := fun H' l' ls cp' hs he => by
    refine hur D a c l' ⟨d.cells, ls, d.count⟩ w H' cp' hw hs fun H2 Hf2 L2 po => ?_
    have en : nextD ⟨d.cells, ls, d.count⟩ w = nextD d w := by
      unfold nextD
      rw [show (skip0 (Draw.mk d.cells ls d.count).left) = skip0 d.left from hs.trans he]
    rw [en] at po ⊢
    exact hq H2 Hf2 L2 po
  refine ⟨fun m σ' H' => σ' = [some (.ref a), some (.int w), none, none, none, none] ∧ ∃ l' ls, CP fx.Hf0 fx.H0 fx.L0 a c H' l' ⟨d.cells, ls, d.count⟩ ∧ skip0 ls = skip0 d.left ∧ ls.length = m, ⟨d.left.length, rfl, l, d.left, cp, rfl, rfl⟩, ?_⟩
  rintro m _ H' ⟨rfl, l', ls, cp', hs, hm⟩
  obtain ⟨e1, e2, e3, e4, e5, e6⟩ := cp'.at
  refine ⟨a, _, l', ls, rfl, e1, drK_left, e3, fun p hp => ?_⟩
  have cp1 := cp'.lay (o := .lst []) hp
  obtain ⟨e1, e2, e3, e4, e5, e6⟩ := cp1.at
  cases ls with
  | nil => exact iteF (iteF (done _ l' [] cp1 rfl hs))
  | cons n r =>
    refine iteT ⟨a, _, l', n, r, rfl, e1, drK_left, e3, ?_⟩
    by_cases hn : n = 0
    · subst hn
      refine iteT ⟨fun σ' H' => σ' = [some (.ref a), some (.int w), none, none, none, none] ∧ ∃ l' ls, CP fx.Hf0 fx.H0 fx.L0 a c H' l' ⟨d.cells, ls, d.count⟩ ∧ skip0 ls = skip0 d.left ∧ ls.length = r.length, fun σ2 H2 hw2 => ⟨r.length, by rw [← hm]; exact Nat.lt_succ_self _, hw2⟩, ?_⟩
      refine ⟨a, _, l', 0 :: r, rfl, e1, sizeLine_big, drK_left, e3, fun p2 hp2 => ⟨rfl, p2, r, ?_, hs, rfl⟩⟩
      rw [putK_left]
      exact cp1.left (ls := r) hp2
    · have e : (n == 0) = false := by simpa using hn
      rw [e]
      have hsn : skip0 (n :: r) = n :: r := by unfold skip0; rw [e]; rfl
      exact iteF (done _ l' (n :: r) cp1 hsn (by rw [← hs, hsn]))
end
theorem nextP_of {args : List Val} {dr : Option Draw} (h : nextP args dr ≠ .no) : ∃ w d, args = [.drw, .d (.int w)] ∧ dr = some d ∧ nextOk d w = true := by
  unfold nextP at h
  split at h
  · rename_i w d
    by_cases hw : nextOk d w = true
    · exact ⟨w, d, rfl, rfl, hw⟩
    · rw [if_neg hw] at h; exact absurd rfl h
  · exact absurd rfl h
/-- _law_next keeps its promise -/
theorem fn_next {P : Program} {w : World} {K : PySem.W.Frag} {mg : Str → Option Value} {base : Heap} {T : Txt} {xcl : Str → Option Addr} {f : Addr} {fdat : FuncData} {fns : Fns} {x q : Str} (hf : ∀ vs dr, fns x vs dr = nextP vs dr)
    (bt : ∀ x : Str, x ∈ ([("len" : Str), "sorted", "tuple", "list", "set", "dict", "all", "any", "min", "max", "sum", "repr", "int", "isinstance", "bool", "str", "range", "enumerate", "super"] : List Str) → mg x = none)
    (ecs : ∀ {X : Cx}, X.K = K → X.prog = P → X.mg = mg → EcOk X ⟨fun _ => false, fun _ _ _ => .no, fun _ => none, T.exc⟩ xcl) (hm : Mod K mg base) (d : DefOk K mg T.exc x (nextFd q) f fdat) : FnG P w K mg base 1 f fdat ["m", q] (spF w K fns xcl x 2) := by
  obtain ⟨name, qual, params, body, scope, dV, kV, doc, pm, cdv, ct, oc, an, od, osl, rfl, lk, hcd, sc, hb⟩ := d.ex
  refine fn_ofG (k := 0) lk hcd sc (fun vs H Q E h => h.1) fun A outer s H vs Q E hr hg hmod hsp => ?_
  obtain ⟨hlv, Hf, L, dr, args, sm, hd, rv, ho, qq⟩ := hsp
  rw [hf] at qq
  have xok : XOk ⟨fun _ => false, fun _ _ _ => .no, fun _ => none, T.exc⟩ xcl (fun cls d _ H => E cls d H) (nextFd q).N scope (fun _ => true) 0 (cxOf (L2.CX P w) P w K mg base (nextFd q).N qual scope f cdv A outer s H E) :=
    { G := ⟨bt, (fun _ _ z => nomatch z), (fun _ z => nomatch z)⟩
      hN := rfl, nd := sc.nd, sc := rfl, calm := rfl, room := hr, gd := hg
      tk := takes_of rfl rfl rfl rfl
      po := passes_of rfl
      hst := fun _ _ => .inl rfl }
  obtain ⟨t, ht, hq⟩ := next_body (fx := ⟨H, Hf, L⟩) xok (ecs rfl rfl rfl) ⟨rfl, rfl, by
      show (envOfC qual scope s.heap.objs.size f cdv).blockKind = .function
      unfold Env.blockKind
      show (if scope.kind.isAnnotationScope = true then _ else scope.kind) = _
      rw [sc.kind]; rfl⟩ hb
  refine ⟨t, ht, ?_⟩
  have hne : nextP args dr ≠ .no := fun z => by rw [z] at qq; exact qq
  obtain ⟨w', d, rfl, rfl, hw⟩ := nextP_of hne
  have qq : (match (if nextOk d w' then FOut.ok (.d (.int (nextD d w').1)) (some (nextD d w').2) else FOut.no) with
    | .no => False
    | .ok v dr' => ∀ u H' Hf' L', CallPost Hf H L Hf' H' L' dr' → RV w K Hf' H' L' u v → (v.owned = true → ∃ a, u = .ref a ∧ H a = none ∧ Hf' a = none) → Q u H'
    | .er e dr' => ∀ cls d H' Hf' L', CallPost Hf H L Hf' H' L' dr' → ExcRep' w K xcl Hf' H' cls d e → E cls d H') := qq
  rw [if_pos hw] at qq
  match vs, rv with
  | [_, _], .cons h0 (.cons h1 .nil) =>
    obtain ⟨a, l, c, rfl, rfl⟩ := h0
    cases h1
    refine hq _ a c l d w' H ⟨Same.refl _, sm, fun _ _ h _ => h, fun _ o h => ⟨o, h⟩, fun _ _ h => .inl h, fun _ h => .inl h, fun _ h => .inl h, LStep.refl _, hd⟩ hw fun H' Hf' L' po => ?_
    exact qq _ H' Hf' L' po (Rp.int _) fun z => nomatch z
end Mini

set_option Elab.async false
set_option linter.all false
set_option maxRecDepth 100000
set_option maxHeartbeats 4000000
namespace Mini
open PySem PySem.Spec PyProof.Rows L2
/-! ### _law_begun -/
def bigE : Int := 1000000000000000000
def bigs (ns : List Int) : List Int := ns.filter fun n => decide (bigE ≤ n)
def begunP : List Val → Option Draw → FOut
  | [.scr ns], none => if ns.length ≤ sizeLine then .ok .drw (some ⟨ns, bigs ns, 0⟩) else .no
  | _, _ => .no
def begE1 : E := .bi .list (one (.var 0 "script"))
def begT : Tst := .e (.cmp .ge (.var 1 "cell") (.bin .pow (.int 10) (.int 18)))
def begE2 : E := .lc [("cell", 1)] (.nm 1 "cell") (.pl (.var 0 "script")) (.cons begT .nil) (.var 1 "cell")
def begunS : Ss := .cons (.ret (.dic (.cons (.str "cells") (.cons (.str "left") (.cons (.str "at") .nil))) (.cons begE1 (.cons begE2 (.cons (.int 0) .nil))))) .nil
def begunFd : Fd := ⟨["script"], ["script", "cell"], begunS⟩
section
variable {Γ : Env} {S S1 S2 : Sta} {m : Bool}
theorem ev_cmp {op : COp} {a b : E} {x y : Val} {v : Bool} (h1 : ev Γ a false S = .ok x S1) (h2 : ev Γ b false S1 = .ok y S2) (h3 : cmpV op x y = some v) : ev Γ (.cmp op a b) m S = .ok (bl v) S2 := by
  show M.bind (ev Γ a false) (fun x => M.bind (ev Γ b false) fun y => M.bind (M.of (cmpV op x y)) fun z => M.ret (Mini.bl z)) S = _
  rw [bind_ok h1, bind_ok h2, bind_of h3]; rfl
theorem ev_use {i : Nat} {x : Str} {v : Val} (h : S.ρ[i]? = some (some v)) (ho : v.owned = false) : ev Γ (.var i x) true S = .ok v S := by
  show useSlot i S = _
  unfold useSlot; rw [h]
  show (if v.owned = true then _ else _) = _
  rw [ho]; rfl
theorem evt_e {a : E} {b : Bool} (h : ev Γ a false S = .ok (bl b) S1) : evt Γ (.e a) S = .ok b S1 := by
  show M.bind (ev Γ a false) boolM S = _
  rw [bind_ok h]; rfl
theorem evts1 {t : Tst} {b : Bool} (h : evt Γ t S = .ok b S1) : evts Γ (.cons t .nil) S = .ok b S1 := by
  show M.bind (evt Γ t) (fun b => if b = true then M.ret true else M.ret false) S = _
  rw [bind_ok h]; cases b <;> rfl
end
theorem lt_int {i j : Int} : W.dataLt (.int i) (.int j) = decide (i < j) := W.dataLt_int i j
theorem cmp_ge {i j : Int} : cmpV .ge (int i) (int j) = some (!decide (i < j)) := by
  show (if ordOk (.int i) (.int j) then some (!W.dataLt (.int i) (.int j)) else none) = _
  rw [if_pos (show ordOk (.int i) (.int j) = true from rfl), lt_int]
theorem pow18 : binV .pow (int 10) (int 18) = some (int bigE) := by
  show (if decide ((0 : Int) ≤ 18) && decide ((18 : Int) ≤ 1000) && decide ((10 : Int).natAbs < 2 ^ 64) then some (int ((10 : Int) ^ (18 : Int).toNat)) else none) = _
  rw [if_pos (by decide)]
  rfl
theorem beg_go {Γ : Env} {sc : List Int} : ∀ (xs : List Int) (acc : List PyData) (y : Option Val), acc.length + xs.length ≤ sizeLine →
    ∃ y', lcGo (lcStep Γ [1] (.nm 1 "cell") (.cons begT .nil) (.var 1 "cell")) (xs.map .int) acc ⟨[some (.scr sc), y], none⟩ = .ok (acc ++ (bigs xs).map .int) ⟨[some (.scr sc), y'], none⟩
  | [], acc, y, _ => ⟨y, by show Out.ok acc _ = _; simp [bigs]⟩
  | x :: r, acc, y, h => by
    have et : evts Γ (.cons begT .nil) ⟨[some (.scr sc), some (.d (.int x))], none⟩ = .ok (!decide (x < bigE)) ⟨[some (.scr sc), some (.d (.int x))], none⟩ :=
      evts1 (evt_e (ev_cmp (ev_var rfl) (ev_bin (ev_int 10) (ev_int 18) pow18) cmp_ge))
    have ee : ev Γ (.var 1 "cell") true ⟨[some (.scr sc), some (.d (.int x))], none⟩ = .ok (.d (.int x)) ⟨[some (.scr sc), some (.d (.int x))], none⟩ := ev_use rfl rfl
    have hb : bigs (x :: r) = if decide (bigE ≤ x) then x :: bigs r else bigs r := by unfold bigs; rw [List.filter_cons]
    simp only [List.length_cons] at h
    have st : ∀ {β : Type} (f : Option PyData → M β), M.bind (M.bind (wipeM [1]) fun _ => M.bind (asgT (.nm 1 "cell") (.d (.int x))) fun _ => M.bind (evts Γ (.cons begT .nil)) fun b => if b = true then M.bind (ev Γ (.var 1 "cell") true) fun v => M.bind (M.of (Mini.getD v)) fun z => M.ret (some z) else M.ret none) f ⟨[some (.scr sc), y], none⟩ = f (if decide (bigE ≤ x) then some (.int x) else none) ⟨[some (.scr sc), some (.d (.int x))], none⟩ := fun f => by
      refine bind_ok ?_
      show M.bind (evts Γ (.cons begT .nil)) (fun b => if b = true then M.bind (ev Γ (.var 1 "cell") true) fun v => M.bind (M.of (Mini.getD v)) fun z => M.ret (some z) else M.ret none) ⟨[some (.scr sc), some (.d (.int x))], none⟩ = _
      rw [bind_ok et]
      by_cases hx : bigE ≤ x
      · rw [decide_eq_true hx, decide_eq_false (by omega)]
        rw [if_pos (show (!false) = true from rfl), bind_ok ee]; rfl
      · rw [decide_eq_false hx, decide_eq_true (by omega)]
        rfl
    by_cases hx : bigE ≤ x
    · obtain ⟨y', e⟩ := beg_go (Γ := Γ) (sc := sc) r (acc ++ [.int x]) (some (.d (.int x))) (by simp; omega)
      refine ⟨y', ?_⟩
      refine (st _).trans ?_
      rw [decide_eq_true hx]
      show (if acc.length < sizeLine then _ else _ : M _) _ = _
      rw [if_pos (by omega)]
      refine e.trans ?_
      rw [hb, decide_eq_true hx]
      simp
    · obtain ⟨y', e⟩ := beg_go (Γ := Γ) (sc := sc) r acc (some (.d (.int x))) (by omega)
      refine ⟨y', ?_⟩
      refine (st _).trans ?_
      rw [decide_eq_false hx]
      refine e.trans ?_
      rw [hb, decide_eq_false hx]
      rfl
theorem ev_lc {Γ : Env} {S : Sta} {m : Bool} {own : List (Str × Nat)} {tg : Tg} {it : Itr} {ts : Tsts} {elt : E} : ev Γ (.lc own tg it ts elt) m S = M.bind (evi Γ it) (fun xs => M.bind (blockM (own.map (·.2)) (lcGo (lcStep Γ (own.map (·.2)) tg ts elt) xs [])) fun ys => M.ret (Val.ol ys)) S := rfl
theorem beg_e1 {Γ : Env} {ns : List Int} : ev Γ begE1 true ⟨[some (.scr ns), none], none⟩ = .ok (.ol (ns.map .int)) ⟨[some (.scr ns), none], none⟩ := ev_bi1 (ev_var rfl) rfl
theorem beg_e2 {Γ : Env} {ns : List Int} (h : ns.length ≤ sizeLine) : ev Γ begE2 true ⟨[some (.scr ns), none], none⟩ = .ok (.ol ((bigs ns).map .int)) ⟨[some (.scr ns), none], none⟩ := by
  obtain ⟨y', e⟩ := beg_go (Γ := Γ) (sc := ns) ns [] none (by simpa using h)
  have ei : evi Γ (.pl (.var 0 "script")) ⟨[some (.scr ns), none], none⟩ = .ok (ns.map .int) ⟨[some (.scr ns), none], none⟩ := by
    show (M.bind (ev Γ (.var 0 "script") true) (fun v => M.bind (frzM v) fun w => M.of (itemsV w)) : M (List PyData)) (⟨[some (.scr ns), none], none⟩ : Sta) = _
    rw [bind_ok (ev_use (v := .scr ns) rfl rfl)]; rfl
  refine ev_lc.trans ?_
  rw [bind_ok ei]
  refine bind_ok (S1 := ⟨[some (.scr ns), none], none⟩) (a := (bigs ns).map .int) ?_ |>.trans rfl
  unfold blockM
  rw [if_pos (by rfl)]
  have e' : lcGo (lcStep Γ (List.map (fun x => x.2) [(("cell" : Str), 1)]) (Tg.nm 1 "cell") (Tsts.cons begT Tsts.nil) (E.var 1 "cell")) (ns.map PyData.int) [] ⟨wipeR [some (.scr ns), none] (List.map (fun x => x.2) [(("cell" : Str), 1)]), none⟩ = _ := e
  rw [e']
  rfl
end Mini

set_option Elab.async false
set_option linter.all false
set_option maxRecDepth 100000
set_option maxHeartbeats 4000000
namespace Mini
open PySem PySem.Spec PyProof.Rows L2
theorem ints_eq {w : World} {K : PySem.W.Frag} {H : Hp} : ∀ {ns : List Int} {vs : List V}, RpAll w K H vs (ns.map PyData.int) → vs = ns.map V.int
  | [], _, .nil => rfl
  | n :: r, _, .cons h t => by cases h; rw [ints_eq t]; rfl
theorem begunP_of {args : List Val} {dr : Option Draw} (h : begunP args dr ≠ .no) : ∃ ns, args = [.scr ns] ∧ dr = none ∧ ns.length ≤ sizeLine := by
  unfold begunP at h
  split at h
  · rename_i ns
    by_cases hw : ns.length ≤ sizeLine
    · exact ⟨ns, rfl, rfl, hw⟩
    · rw [if_neg hw] at h; exact absurd rfl h
  · exact absurd rfl h
theorem mergeK_dr {c l : Addr} : mergeK [] (drK c l 0) = drK c l 0 := rfl
/-- _law_begun keeps its promise -/
theorem fn_begun {P : Program} {w : World} {K : PySem.W.Frag} {mg : Str → Option Value} {base : Heap} {T : Txt} {xcl : Str → Option Addr} {f : Addr} {fdat : FuncData} {fns : Fns} {x : Str} (hf : ∀ vs dr, fns x vs dr = begunP vs dr)
    (bt : ∀ x : Str, x ∈ ([("len" : Str), "sorted", "tuple", "list", "set", "dict", "all", "any", "min", "max", "sum", "repr", "int", "isinstance", "bool", "str", "range", "enumerate", "super"] : List Str) → mg x = none)
    (hm : Mod K mg base) (d : DefOk K mg T.exc x begunFd f fdat) : FnG P w K mg base 1 f fdat ["script"] (spF w K fns xcl x 1) := by
  obtain ⟨name, qual, params, body, scope, dV, kV, doc, pm, cdv, ct, oc, an, od, osl, rfl, lk, hcd, sc, hb⟩ := d.ex
  refine fn_ofG (k := 0) lk hcd sc (fun vs H Q E h => h.1) fun A outer s H vs Q E hr hg hmod hsp => ?_
  obtain ⟨hlv, Hf, L, dr, args, sm, hd, rv, ho, qq⟩ := hsp
  rw [hf] at qq
  have xok : XOk ⟨fun _ => false, fun _ _ _ => .no, fun _ => none, T.exc⟩ xcl (fun cls d _ H => E cls d H) begunFd.N scope (fun _ => true) 0 (cxOf (L2.CX P w) P w K mg base begunFd.N qual scope f cdv A outer s H E) :=
    { G := ⟨bt, (fun _ _ z => nomatch z), (fun _ z => nomatch z)⟩
      hN := rfl, nd := sc.nd, sc := rfl, calm := rfl, room := hr, gd := hg
      tk := takes_of rfl rfl rfl rfl
      po := passes_of rfl
      hst := fun _ _ => .inl rfl }
  have hne : begunP args dr ≠ .no := fun z => by rw [z] at qq; exact qq
  obtain ⟨ns, rfl, rfl, hz⟩ := begunP_of hne
  have qq : (match (if ns.length ≤ sizeLine then FOut.ok .drw (some ⟨ns, bigs ns, 0⟩) else FOut.no) with
    | .no => False
    | .ok v dr' => ∀ u H' Hf' L', CallPost Hf H L Hf' H' L' dr' → RV w K Hf' H' L' u v → (v.owned = true → ∃ a, u = .ref a ∧ H a = none ∧ Hf' a = none) → Q u H'
    | .er e dr' => ∀ cls d H' Hf' L', CallPost Hf H L Hf' H' L' dr' → ExcRep' w K xcl Hf' H' cls d e → E cls d H') := qq
  rw [if_pos hz] at qq
  have nol : ∀ {Hf H : Hp} {L : Loc3}, DrOk Hf H L none → L = none := fun {Hf H L} h => by
    match L, h with
    | none, _ => rfl
  cases nol hd
  obtain ⟨x1, r1, rfl, h1, hr1⟩ := ivs_cons hb
  cases ivs_nil hr1
  obtain ⟨v, p, rfl, hv⟩ := ivs_ret h1
  obtain ⟨k1, k2, k3, y1, y2, y3, p2, rfl, ⟨hk1, hk2, hk3⟩, hy1, hy2, hy3⟩ := inv_dic3 hv
  obtain ⟨_, _, rfl⟩ := inv_str hk1
  obtain ⟨_, _, rfl⟩ := inv_str hk2
  obtain ⟨_, _, rfl⟩ := inv_str hk3
  obtain ⟨_, _, rfl⟩ := inv_int hy3
  refine ⟨_, pss_one (ps_ret (pe_disp (pps_cons pe_str (soundE _ xcl ⟨H, Hf, none⟩ _ begE1 (m := true) xok hy1) (pps_cons pe_str (soundE _ xcl ⟨H, Hf, none⟩ _ begE2 (m := true) xok hy2) (pps_cons pe_str pe_int pps_nil))) rfl rfl (by simp) (by simp))), fun D hD => ?_⟩
  have s0 := sim_start (N := begunFd.N) sm hd rv ho
  have s1 := (s0.layO (o := .dK []) hD).1
  refine ⟨_, s1, ?_⟩
  show OutP (ev _ begE1 true ⟨[some (.scr ns), none], none⟩) _ _
  rw [beg_e1]
  intro v1 H1 p1 e1 s2 st1 rv1 fr1
  obtain ⟨c, cs, rfl, hc, rpc, _⟩ := rv1
  obtain ⟨_, ec, hcn, hcf⟩ := fr1 rfl rfl
  cases ec
  cases ints_eq rpc
  refine ⟨p1, s2, ?_⟩
  show OutP (ev _ begE2 true p1.S) _ _
  rw [e1, beg_e2 hz]
  intro v2 H3 p3 e3 s4 st3 rv3 fr3
  obtain ⟨l, ls, rfl, hl, rpl, _⟩ := rv3
  obtain ⟨_, el, hln, hlf⟩ := fr3 rfl rfl
  cases el
  cases ints_eq rpl
  have L1 : p1.L = none := nol (by have := s2.dr; rw [e1] at this; exact this)
  have L3 : p3.L = none := nol (by have := s4.dr; rw [e3] at this; exact this)
  have d1 : ∀ b, ¬ Dr p1.L b := fun b => by rw [L1]; exact id
  have hD3 : H3 D = some (.dK []) := st3.keep D _ (st1.keep D _ upd_same id) (d1 D)
  have hc3 : H3 c = some (.lst (ns.map V.int)) := st3.keep c _ hc (d1 c)
  have cD : c ≠ D := fun z => by rw [z, upd_same] at hcn; cases hcn
  have lD : l ≠ D := fun z => by rw [z, hD3] at hl; cases hl
  have lc : l ≠ c := fun z => by rw [z, hc] at hln; cases hln
  have hup : ∀ {b : Addr}, upd H D (.dK []) b = none → H b = none := fun {b} e => by
    by_cases z : b = D
    · rw [z]; exact hD
    · rw [upd_ne z] at e; exact e
  have c0 : H c = none := hup hcn
  have l0 : H l = none := hup (st1.none_of hln)
  have st : Step _ (upd H D (.dK [])) p3 H3 _ := st1.trans st3
  have noSo : ∀ b, ¬ SlotOwn ⟨⟨startR begunFd.N.length [Val.scr ns], none⟩, Hf, none⟩ (L2.start begunFd.N vs) b := fun b ⟨i, v, q1, q2, q3⟩ => by
    match i, q1 with
    | 0, q1 => cases q1; cases q2
    | 1, q1 => cases q1
    | _ + 2, q1 => cases q1
  have nfD : ∀ b o, p3.Hf b = some o → Hf b = some o ∨ H b = none := fun b o e => by
    rcases st.nf b o e with h | h | h
    · exact .inl h
    · exact .inr (hup h)
    · exact (noSo b h).elim
  have hfD : p3.Hf D = none := by
    cases e : p3.Hf D with
    | none => rfl
    | some o =>
      rcases st.nf D o e with h | h | h
      · rw [sm D o h] at hD; cases hD
      · rw [upd_same] at h; cases h
      · exact (noSo D h).elim
  refine ⟨hD3, drK c l 0, rfl, by simp, qq _ _ p3.Hf (some (D, l, c)) ⟨st.hf, ?_, ?_, ?_, nfD, ?_, ?_, trivial, ⟨⟨upd_same, ?_, ?_, lc⟩, hfD, hlf⟩⟩ ⟨D, l, c, rfl, rfl⟩ fun z => nomatch z⟩
  · intro b o e
    have : b ≠ D := fun z => by rw [z, hfD] at e; cases e
    rw [upd_ne this]; exact s4.sub b o e
  · intro b o e _
    have : b ≠ D := fun z => by rw [z, hD] at e; cases e
    rw [upd_ne this]
    exact st.keep b o (by rw [upd_ne this]; exact e) id
  · intro b o e
    have : b ≠ D := fun z => by rw [z, hD] at e; cases e
    exact ⟨o, by rw [upd_ne this]; exact st.keep b o (by rw [upd_ne this]; exact e) id⟩
  · rintro b (e | e | e)
    · exact .inr (by rw [e]; exact hD)
    · exact .inr (by rw [e]; exact l0)
    · exact .inr (by rw [e]; exact c0)
  · rintro b (e | e)
    · exact .inr (by rw [e]; exact hD)
    · exact .inr (by rw [e]; exact l0)
  · rw [upd_ne cD]; exact hc3
  · rw [upd_ne lD]; exact hl
end Mini

set_option Elab.async false
set_option linter.all false
set_option maxRecDepth 100000
set_option maxHeartbeats 4000000
namespace Mini
open PySem PySem.Spec PyProof.Rows L2
theorem zip_lookup : ∀ {ps : List Str} {us : List Value} {n : Str} {v : Value}, ps.Nodup → (n, v) ∈ ps.zip us → (ps.zip us).lookup n = some v
  | [], us, n, v, _, h => by simp at h
  | p :: ps, [], n, v, _, h => by simp at h
  | p :: ps, u :: us, n, v, nd, h => by
    rw [List.zip_cons_cons, List.lookup_cons]
    rw [List.nodup_cons] at nd
    rcases List.mem_cons.mp h with e | e
    · cases e; simp
    · have hn : n ∈ ps := (List.of_mem_zip e).1
      have : (n == p) = false := by
        rw [beq_eq_false_iff_ne]
        rintro rfl
        exact nd.1 hn
      rw [this]
      exact zip_lookup nd.2 e
theorem zip_has {ps : List Str} {us : List Value} (nd : ps.Nodup) (hl : us.length = ps.length) {n : Str} (h : n ∈ ps) : ∃ v, (ps.zip us).lookup n = some v := by
  obtain ⟨i, hi, e⟩ := List.mem_iff_getElem.mp h
  have hz : i < (ps.zip us).length := by rw [List.length_zip]; omega
  refine ⟨us[i], zip_lookup nd ?_⟩
  have := List.getElem_mem hz
  rw [List.getElem_zip] at this
  rw [e] at this
  exact this
theorem zip_back : ∀ {ps : List Str} {us : List Value} (zs : List (Str × Value)), us.length = ps.length → (∀ n v, (n, v) ∈ ps.zip us → zs.lookup n = some v) → ps.filterMap (fun n => (zs.lookup n).map (n, ·)) = ps.zip us
  | [], us, zs, hl, h => by simp
  | p :: ps, [], zs, hl, h => by simp at hl
  | p :: ps, u :: us, zs, hl, h => by
    rw [List.zip_cons_cons, List.filterMap_cons, h p u (by simp)]
    show (p, u) :: _ = _
    rw [zip_back zs (by simpa using hl) fun n v e => h n v (by rw [List.zip_cons_cons]; exact List.mem_cons_of_mem _ e)]
theorem binds_gen {fd : FuncData} {as : List Arg} {us : List Value} (h : fd.params = ⟨[], as, none, [], [], none, []⟩) (h2 : fd.defaults = .none) (nd : (as.map (fun x => Arg.arg x)).Nodup) (hl : us.length = (as.map (fun x => Arg.arg x)).length) : bindArgs fd ⟨us, []⟩ = pure ((as.map (fun x => Arg.arg x)).zip us) := by
  have e1 : ((as.map (fun x => Arg.arg x)).take ((as.map (fun x => Arg.arg x)).length - 0)).filter (fun n => (((as.map (fun x => Arg.arg x)).zip us).lookup n).isNone) = [] := by
    rw [List.filter_eq_nil_iff]
    intro n hn
    obtain ⟨v, e⟩ := zip_has nd hl (List.mem_of_mem_take hn)
    rw [e]; simp
  have e2 : ((as.map (fun x => Arg.arg x)) ++ []).filterMap (fun n => (((as.map (fun x => Arg.arg x)).zip us).lookup n).map (n, ·)) = (as.map (fun x => Arg.arg x)).zip us := by
    rw [List.append_nil]
    exact zip_back _ hl fun n v e => zip_lookup nd e
  cases fd
  cases h
  cases h2
  have hs : seqItems? Value.none = pure none := rfl
  have hgt : decide (us.length > (as.map (fun x => Arg.arg x)).length) = false := by rw [hl]; simp
  unfold bindArgs
  simp only [List.map_nil, List.nil_append, hs, pure_bind, List.forIn_nil, Option.getD_none, List.length_nil, Option.isNone_none, Bool.and_true, hgt, List.drop_nil, e1, e2, List.isEmpty_nil, Bool.not_true, Bool.false_eq_true, if_false, ite_false, List.zip_nil_right]
/-! ### the head's checks -/
structure Tx where
  fds : List (Str × Fd)
  q : Str
  globs : List (Str × PyData)
  excs : List (Str × (List Str × List (Str × Str)))
def Tx.txt (t : Tx) : Txt := ⟨t.fds, fun x => t.globs.lookup x, fun c => t.excs.lookup c, fun f => if f = "_law_begun" then some begunP else if f = "_law_next" then some nextP else none⟩
def Tx.all (t : Tx) : List (Str × Fd) := ("_law_begun", begunFd) :: ("_law_next", nextFd t.q) :: t.fds
def scopeB (N ps : List Str) (sc : Scope) : Bool := decide (sc.kind = .function) && (!sc.isCoroutine && (!sc.isGenerator && (decide N.Nodup && (decide (N.take ps.length = ps) && ((ps.all fun x => decide (sc.names.lookup x = some .local) || decide (sc.names.lookup x = some .cell)) && sc.names.all fun y => decide (y.2 ≠ .free))))))
theorem scopeB_ok {N ps : List Str} {sc : Scope} (h : scopeB N ps sc = true) : FnScope N ps sc := by
  unfold scopeB at h
  simp only [Bool.and_eq_true, decide_eq_true_eq, Bool.not_eq_true', List.all_eq_true, Bool.or_eq_true] at h
  obtain ⟨h1, h2, h3, h4, h5, h6, h7⟩ := h
  exact ⟨h1, h2, h3, h4, h5, h6, h7⟩
def paramB (ps : List Str) (p : Arguments) : Bool := p.posonlyargs.isEmpty && (decide (p.args.map (fun x => Arg.arg x) = ps) && (p.vararg.isNone && (p.kwonlyargs.isEmpty && (p.kw_defaults.isEmpty && (p.kwarg.isNone && p.defaults.isEmpty)))))
def noneB (v : Value) : Bool := match v with
  | .none => true
  | _ => false
def fdatB (K : PySem.W.Frag) (exc : ExcT) (fd : Fd) (g : FuncData) : Bool := (match g.body with
    | .stmts b => isSs fd.N g.scope (fun _ => true) exc fd.body b
    | _ => false) && (decide (g.globals = mainGlobals) && (decide (g.closure = []) && (decide (g.builtins = builtinsNs) && (PySem.W.codeIn K g.code g.qualname && (scopeB fd.N fd.ps g.scope && (paramB fd.ps g.params && (noneB g.defaults && decide fd.ps.Nodup)))))))
def defB (K : PySem.W.Frag) (exc : ExcT) (f : Str) (fd : Fd) : Bool := He.eqO (PySem.W.nsIn K mainGlobals f) (some (some (.ref (He.ga K f)))) && (PySem.W.keepIn K (.ref (He.ga K f)) && match K.lookup (He.ga K f) with
  | some ⟨_, _, .func g, _⟩ => fdatB K exc fd g
  | _ => false)
theorem defB_ok {K : PySem.W.Frag} {h : Heap} {mg : Str → Option Value} {exc : ExcT} {f : Str} {fd : Fd} (X : K.In h) (G : h.Ns mainGlobals mg) (c : defB K exc f fd = true) : ∃ fa fdat, DefOk K mg exc f fd fa fdat := by
  unfold defB at c
  rw [Bool.and_eq_true, Bool.and_eq_true] at c
  obtain ⟨c1, c2, c3⟩ := c
  split at c3
  · rename_i oc od g osl lk
    unfold fdatB at c3
    simp only [Bool.and_eq_true, decide_eq_true_eq] at c3
    obtain ⟨d1, d2, d3, d4, d5, d6, d7, d8, d9⟩ := c3
    have hM : mg f = some (.ref (He.ga K f)) := PySem.W.mg_of X G (He.eqO_ok c1)
    obtain ⟨nm, qn, pr, bd, sc, gl, cl, df, kd, dc, pm, an, cd, ct, bl⟩ := g
    dsimp only at d1 d2 d3 d4 d5 d6 d7 d8
    cases bd with
    | stmts b =>
      subst d2 d3 d4
      refine ⟨_, _, ⟨⟨nm, qn, pr, b, sc, df, kd, dc, pm, cd, ct, oc, an, od, osl, rfl, lk, d5, scopeB_ok d6, d1⟩, hM, c2, ?_⟩⟩
      unfold paramB at d7
      simp only [Bool.and_eq_true, decide_eq_true_eq, List.isEmpty_iff, Option.isNone_iff_eq_none] at d7
      obtain ⟨e1, e2, e3, e4, e5, e6, e7⟩ := d7
      obtain ⟨q1, q2, q3, q4, q5, q6, q7⟩ := pr
      dsimp only at e1 e2 e3 e4 e5 e6 e7
      subst e1 e3 e4 e5 e6 e7
      refine Binds.all fun us hl => ?_
      rw [← e2] at d9 hl ⊢
      refine binds_gen rfl ?_ d9 hl
      show df = .none
      cases df <;> first | rfl | cases d8
    | _ => cases d1
  · cases c3
/-! errors -/
def clsB (K : PySem.W.Frag) (C : Addr) : Bool := match PySem.W.clsIn K C with
  | some cd => HandSPX.refsVE cd.mro && cd.hasDict
  | none => false
def errB (K : PySem.W.Frag) (C fI : Addr) : Bool := PySem.W.excInitIn K C veB "ValueError.__new__" && (clsB K C && (He.eqO (PySem.W.findIn K (.ref C) "__setattr__") (some (some (.builtin "object.__setattr__"))) && (He.eqO (PySem.W.findIn K (.ref C) "__init__") (some (some (.ref fI))) &&
  (decide (PySem.W.typeIn K (.ref fI) = some (.type "function")) && (PySem.W.keepIn K (.ref C) && (decide (PySem.W.subIn K (.ref C) (.type "BaseException") = some true) && (decide (PySem.W.typeIn K (.ref C) = some (.type "type")) && (decide (PySem.W.subIn K (.ref C) (.type "ValueError") = some true) &&
  (decide (PySem.W.mroIn K C (.ref C) = some true) && (He.eqO (PySem.W.ks_superIn K C C "__init__") (some (some (.builtin "ValueError.__init__"))) && He.eqO (PySem.W.nsIn K cStatics "thirdparty.any") (some none)))))))))))
theorem errB_ok {K : PySem.W.Frag} {C fI : Addr} (h : errB K C fI = true) : ErrK K C fI := by
  unfold errB at h
  simp only [Bool.and_eq_true, decide_eq_true_eq] at h
  obtain ⟨h1, h2, h3, h4, h5, h6, h7, h8, h9, h10, h11, h12⟩ := h
  refine ⟨h1, ?_, He.eqO_ok h3, He.eqO_ok h4, h5, h6, h7, h8, h9, h10, He.eqO_ok h11, He.eqO_ok h12⟩
  unfold clsB at h2
  split at h2
  · rename_i cd e
    rw [Bool.and_eq_true] at h2
    exact ⟨cd, e, h2⟩
  · cases h2
def fileB (P : Program) (K : PySem.W.Frag) (c : Value) : Bool := match c with
  | .ref a => (match K.lookup a with
    | some ⟨_, _, .fields vs, _⟩ => (match (vs[2]? : Option Value) with
      | some (.str file _) => ((P.main.file : Str) == file)
      | _ => false)
    | _ => false)
  | _ => false
def cellB (K : PySem.W.Frag) (C : Addr) (cl : List (Str × Addr)) : Bool := match cl with
  | [(x, cc)] => decide (x = "__class__") && (match K.lookup cc with
    | some ⟨_, _, .cell (some (.ref D)), _⟩ => decide (D = C)
    | _ => false)
  | _ => false
def meOf (g : FuncData) : Str := match g.params.posonlyargs ++ g.params.args with
  | a :: _ => a.arg
  | [] => ""
def init2 (K : PySem.W.Frag) (C : Addr) (ps : List Str) (fs : List (Str × Str)) (g : FuncData) : Bool := paramB (meOf g :: ps) g.params && (noneB g.defaults && (decide (meOf g :: ps).Nodup && ((fs.all fun p => He.eqO (PySem.W.findIn K (.ref C) p.1) (some none)) && (decide (fs.length ≤ 100) && (decide (ps.length ≤ 100) && fs.all fun p => ps.contains p.2)))))
theorem binds_of {K : PySem.W.Frag} {g : FuncData} {ps : List Str} (h1 : paramB ps g.params = true) (h2 : noneB g.defaults = true) (nd : ps.Nodup) : L2.Binds K g ps [] := by
  unfold paramB at h1
  simp only [Bool.and_eq_true, decide_eq_true_eq, List.isEmpty_iff, Option.isNone_iff_eq_none] at h1
  obtain ⟨e1, e2, e3, e4, e5, e6, e7⟩ := h1
  refine Binds.all fun us hl => ?_
  rw [← e2] at nd hl ⊢
  refine binds_gen ?_ ?_ nd hl
  · generalize g.params = pr at e1 e2 e3 e4 e5 e6 e7 ⊢
    obtain ⟨q1, q2, q3, q4, q5, q6, q7⟩ := pr
    dsimp only at e1 e3 e4 e5 e6 e7
    subst e1 e3 e4 e5 e6 e7
    rfl
  · cases e : g.defaults <;> first | rfl | (rw [e] at h2; cases h2)
def initOk (P : Program) (K : PySem.W.Frag) (C : Addr) (ps : List Str) (fs : List (Str × Str)) (g : FuncData) : Bool := (match g.body with
    | .stmts b => initB g.scope (meOf g) (meOf g :: ps) fs b
    | _ => false) && (cellB K C g.closure && (decide (g.globals = mainGlobals) && (decide (g.builtins = builtinsNs) && (PySem.W.codeIn K g.code g.qualname && (fileB P K g.code && (!g.scope.isCoroutine && (!g.scope.isGenerator && (decide (g.scope.kind = .function) &&
    ((g.scope.names.all fun x => decide (x.2 ≠ .cell)) && (((meOf g :: ps).all fun x => decide (g.scope.names.lookup x = some .local)) && (decide (g.scope.names.lookup ("super" : Str) = some .globalImplicit) && (decide (g.scope.names.lookup ("__class__" : Str) = some .free) && (!(g.params.posonlyargs ++ g.params.args).isEmpty && !(P.main.scope.names.lookup ("super" : Str)).isSome)))))))))))))
theorem initOk_ok {P : Program} {K : PySem.W.Frag} {C fI : Addr} {ps : List Str} {fs : List (Str × Str)} {g : FuncData} {oc : Value} {od : Option Addr} {osl : Array (Option Value)} (lk : K.lookup fI = some ⟨oc, od, .func g, osl⟩) (h : initOk P K C ps fs g = true) (h' : init2 K C ps fs g = true) : InitK P K C fI g (meOf g) ps fs := by
  unfold initOk at h
  simp only [Bool.and_eq_true, decide_eq_true_eq, Bool.not_eq_true', List.all_eq_true] at h
  obtain ⟨h1, h2, h3, h4, h5, h6, h7, h8, h9, h10, h11, h12, h13, h14, h15⟩ := h
  unfold init2 at h'
  simp only [Bool.and_eq_true, decide_eq_true_eq, List.all_eq_true] at h'
  obtain ⟨g1, g2, g3, g4, g5, g6, g7⟩ := h'
  refine ⟨⟨oc, od, osl, lk⟩, ?_, ?_, h3, h4, h5, ?_, h7, h8, h9, h10, h11, h12, h13, ?_, h15, binds_of g1 g2 g3, g3, fun p hp => He.eqO_ok (g4 p hp), g5, g6, fun p hp => by simpa using g7 p hp⟩
  · cases e : g.body with
    | stmts b => rw [e] at h1; exact ⟨b, rfl, h1⟩
    | expr b => rw [e] at h1; cases h1
  · unfold cellB at h2
    split at h2
    · rename_i x cc e
      rw [Bool.and_eq_true, decide_eq_true_eq] at h2
      obtain ⟨rfl, h2⟩ := h2
      split at h2
      · rename_i cl cld D csl e2
        have := of_decide_eq_true h2
        subst this
        exact ⟨cc, e, cl, cld, csl, e2⟩
      · cases h2
    · cases h2
  · unfold fileB at h6
    split at h6
    · rename_i a e
      split at h6
      · rename_i ccl cdd vs ccs e2
        split at h6
        · rename_i file tf e3
          exact ⟨a, ccl, cdd, vs, ccs, file, tf, e, e2, e3, h6⟩
        · cases h6
      · cases h6
    · cases h6
  · unfold meOf
    cases e : g.params.posonlyargs ++ g.params.args with
    | nil => rw [e] at h14; cases h14
    | cons a r => exact ⟨a, rfl, rfl⟩
def excB (P : Program) (K : PySem.W.Frag) (c : Str) (ps : List Str) (fs : List (Str × Str)) : Bool := He.eqO (PySem.W.nsIn K mainGlobals c) (some (some (.ref (He.ga K c)))) && (errB K (He.ga K c) (He.ma K (He.ga K c) "__init__") && (xfB K (He.ga K c) && match K.lookup (He.ma K (He.ga K c) "__init__") with
  | some ⟨_, _, .func g, _⟩ => initOk P K (He.ga K c) ps fs g && init2 K (He.ga K c) ps fs g
  | _ => false))
def globB (K : PySem.W.Frag) (x : Str) (d : PyData) : Bool := flatD d && match PySem.W.nsIn K mainGlobals x with
  | some (some u) => He.relB (toV d) u
  | _ => false
def btL : List Str := ["len", "sorted", "tuple", "list", "set", "dict", "all", "any", "min", "max", "sum", "repr", "int", "isinstance", "bool", "str", "range", "enumerate", "super"]
def Tx.ok (P : Program) (t : Tx) (K : PySem.W.Frag) : Bool := (btL.all fun x => He.eqO (PySem.W.nsIn K mainGlobals x) (some none)) && ((t.globs.all fun p => globB K p.1 p.2) && ((t.all.all fun p => defB K t.txt.exc p.1 p.2) && ((t.excs.all fun p => excB P K p.1 p.2.1 p.2.2) &&
  (t.excs.all fun a => t.excs.all fun b => decide (PySem.W.exmOne K (.ref (He.ga K a.1)) (.ref (He.ga K b.1)) = some (decide (a.1 = b.1)))))))
def Tx.xcl (t : Tx) (K : PySem.W.Frag) (c : Str) : Option Addr := if (t.excs.lookup c).isSome then some (He.ga K c) else none
theorem lookup_mem {α β : Type} [BEq α] [LawfulBEq α] {l : List (α × β)} {a : α} {b : β} (h : l.lookup a = some b) : (a, b) ∈ l := by
  induction l with
  | nil => cases h
  | cons p r ih =>
    obtain ⟨x, y⟩ := p
    rw [List.lookup_cons] at h
    cases e : a == x with
    | true => rw [e] at h; cases h; rw [eq_of_beq e]; exact List.mem_cons_self ..
    | false => rw [e] at h; exact List.mem_cons_of_mem _ (ih h)
theorem txt_ok {P : Program} {w : World} {K : PySem.W.Frag} {h : Heap} {mg : Str → Option Value} {t : Tx} (X : K.In h) (G : h.Ns mainGlobals mg) (c : t.ok P K = true) : TxtOk P w K mg t.txt (t.xcl K) 1 := by
  unfold Tx.ok at c
  simp only [Bool.and_eq_true, List.all_eq_true] at c
  obtain ⟨c1, c2, c3, c4, c5⟩ := c
  have bt : ∀ x : Str, x ∈ btL → mg x = none := fun x hx => PySem.W.mg_none_of X G (He.eqO_ok (c1 x hx))
  have hx : ∀ c C, t.xcl K c = some C → C = He.ga K c ∧ ∃ ps fs, (c, ps, fs) ∈ t.excs := fun c C e => by
    unfold Tx.xcl at e
    split at e
    · rename_i hs
      cases e
      obtain ⟨⟨ps, fs⟩, e⟩ := Option.isSome_iff_exists.mp hs
      exact ⟨rfl, ps, fs, lookup_mem e⟩
    · cases e
  have hec : ∀ c ps fs, t.txt.exc c = some (ps, fs) → ∃ C fI fd me, t.xcl K c = some C ∧ ErrK K C fI ∧ InitK P K C fI fd me ps fs ∧ XfC K C := fun c ps fs e => by
    have e : t.excs.lookup c = some (ps, fs) := e
    have h1 := c4 _ (lookup_mem e)
    unfold excB at h1
    simp only [Bool.and_eq_true] at h1
    obtain ⟨h1, h2, h3, h4⟩ := h1
    split at h4
    · rename_i lk
      rw [Bool.and_eq_true] at h4
      refine ⟨He.ga K c, _, _, _, ?_, errB_ok h2, initOk_ok lk h4.1 h4.2, xfB_ok h3⟩
      unfold Tx.xcl
      rw [e]; rfl
    · cases h4
  have hxm : ∀ a b A B, t.xcl K a = some A → t.xcl K b = some B → PySem.W.exmOne K (.ref A) (.ref B) = some (decide (a = b)) := fun a b A B ea eb => by
    obtain ⟨rfl, ps, fs, ma⟩ := hx a A ea
    obtain ⟨rfl, ps', fs', mb⟩ := hx b B eb
    exact of_decide_eq_true (c5 _ ma _ mb)
  have hxg : ∀ c C, t.xcl K c = some C → mg c = some (.ref C) := fun c C e => by
    obtain ⟨rfl, ps, fs, m⟩ := hx c C e
    have h1 := c4 _ m
    unfold excB at h1
    simp only [Bool.and_eq_true] at h1
    exact PySem.W.mg_of X G (He.eqO_ok h1.1)
  have hdf : ∀ f fd, (f, fd) ∈ t.all → ∃ fa fdat, DefOk K mg t.txt.exc f fd fa fdat := fun f fd m => defB_ok X G (c3 _ m)
  refine ⟨bt, fun x d e => ?_, fun f fd e _ => hdf f fd (List.mem_cons_of_mem _ (List.mem_cons_of_mem _ (lookup_mem e))), fun f p e => ?_, hec, hxm, hxg⟩
  · have h1 := c2 _ (lookup_mem (show t.globs.lookup x = some d from e))
    unfold globB at h1
    rw [Bool.and_eq_true] at h1
    obtain ⟨h1, h2⟩ := h1
    split at h2
    · rename_i u e2
      exact ⟨h1, u, PySem.W.mg_of X G e2, He.relB_ok h2⟩
    · cases h2
  · have e : (if f = "_law_begun" then some begunP else if f = "_law_next" then some nextP else none) = some p := e
    split at e
    · rename_i hf
      subst hf
      cases e
      obtain ⟨fa, fdat, d⟩ := hdf _ _ (List.mem_cons_self ..)
      refine ⟨fa, fdat, _, d.at_, d.kp, d.bind, fun vs dr z => ?_, fun base hm fns hf => fn_begun hf bt hm d⟩
      obtain ⟨ns, rfl, _⟩ := begunP_of z
      rfl
    · split at e
      · rename_i hf
        subst hf
        cases e
        obtain ⟨fa, fdat, d⟩ := hdf _ _ (List.mem_cons_of_mem _ (List.mem_cons_self ..))
        refine ⟨fa, fdat, _, d.at_, d.kp, d.bind, fun vs dr z => ?_, fun base hm fns hf => fn_next (T := t.txt) hf bt (fun {X} e1 e2 e3 => ?_) hm d⟩
        · obtain ⟨ns, _, rfl, _⟩ := nextP_of z
          rfl
        · subst e1 e2 e3
          exact ⟨hec, hxm, hxg⟩
      · cases e
end Mini

set_option Elab.async false
set_option linter.all false
set_option maxRecDepth 100000
set_option maxHeartbeats 4000000
namespace Mini
open PySem PySem.Spec PyProof.Rows L2
/-! ### the head's Hook -/
def asM (g : Addr → Option Obj) : Nat → List Addr
  | 0 => [mainGlobals, cStatics]
  | n + 1 => He.growD g (asM g n)
def fragM (n : Nat) (g : Addr → Option Obj) : PySem.W.Frag := He.frG g (asM g n)
def hookM (P : Program) (t : Tx) (n : Nat) : PySem.W.Hook where
  α := Bool
  obs := fun s => t.ok P (fragM n s.heap.get?)
  val := fun _ => true
  says := fun _ h => ∃ K : PySem.W.Frag, K.In h ∧ t.ok P K = true
  of := fun _ _ e => ⟨_, He.frG_in, e⟩
  keeps := fun _ _ _ ⟨K, X, c⟩ k => ⟨K, fun b o e => k b o (X b o e), c⟩
def obM (P : Program) (t : Tx) (n : Nat) (s : PySem.W.SharedT) : Bool := t.ok P (fragM n (HandSHeadRun.getT s))
theorem obM_eq (P : Program) (t : Tx) (n : Nat) (s : PySem.W.SharedT) : obM P t n s = (hookM P t n).obs s.abs := by
  unfold obM
  rw [show HandSHeadRun.getT s = s.abs.heap.get? from funext (HandSHeadRun.getT_eq s)]
  rfl
/-! ### the law's call -/
theorem law_run {P : Program} {w : World} {K : PySem.W.Frag} {mg mb : Str → Option Value} {t : Tx} {s₁ : Shared} {fa a : Addr} {vs : List Value} {ns : List Int} {n : Nat}
    (KX : K.In s₁.heap) (hns : s₁.heap.Ns mainGlobals mg) (hb : s₁.heap.Ns builtinsNs mb) (hbb : ∀ x : Str, x ≠ "__name__" → mb x = bootBuiltins x) (hlim : s₁.heap.NoLimit) (hg : s₁.gens = #[])
    (ha : s₁.heap.get? a = some { cls := .type "list", data := .seq vs.toArray }) (hi : IntsAre vs ns) (hl : ns.length ≤ sizeLine) (hr : Room (1 + n) callerA) (ck : t.ok P K = true) (hfa : mg ("law" : Str) = some (.ref fa))
    (hlaw : ∃ dr, callN t.txt n "law" [.scr ns] none = .ok (.d (.bool true)) dr) :
    codeAny (model P w) callerA (.call (.ref fa) ⟨[.ref a], []⟩) (fun r s' => r = .ok (.ret (.bool true)) ∧ OldK s₁.heap s'.heap ∧ s'.os = s₁.os ∧ AllBare s'.gens) s₁ := by
  obtain ⟨dr', hlaw⟩ := hlaw
  have tok : TxtOk P w K mg t.txt (t.xcl K) 1 := txt_ok KX hns ck
  have hhas : t.txt.has "law" = true := by
    cases hc : t.txt.has "law" with
    | true => rfl
    | false =>
      have h0 : ((t.txt.prim ("law" : Str)).isSome || (t.txt.fds.lookup ("law" : Str)).isSome) = false := hc
      rw [Bool.or_eq_false_iff] at h0
      have e1 : t.txt.prim ("law" : Str) = none := by cases e : t.txt.prim ("law" : Str) <;> simp_all
      have e2 : t.txt.fds.lookup ("law" : Str) = none := by cases e : t.txt.fds.lookup ("law" : Str) <;> simp_all
      exfalso
      cases n with
      | zero => cases hlaw
      | succ n =>
        have : callN t.txt (n + 1) "law" [.scr ns] none = .no := by
          show (match t.txt.prim ("law" : Str) with | some p => p [.scr ns] none | none => match t.txt.fds.lookup ("law" : Str) with | some fd => runFd ⟨t.txt.has, callN t.txt n, t.txt.glob, t.txt.exc⟩ fd [.scr ns] none | none => .no) = _
          rw [e1, e2]
        rw [this] at hlaw; cases hlaw
  have rv := vals_ints hi
  have core : ∀ H : Hp, SqL K H a (ns.map V.int) → HOk P w H s₁.heap → (∀ b, H b ≠ none → b = a ∧ K.lookup a = none) → (∀ b u, H b = some u → ∃ o xs, u = .frz o (.lst xs)) →
      codeAny (model P w) callerA (.call (.ref fa) ⟨[.ref a], []⟩) (fun r s' => r = .ok (.ret (.bool true)) ∧ OldK s₁.heap s'.heap ∧ s'.os = s₁.os ∧ AllBare s'.gens) s₁ := by
    intro H hS hok hA hF
    have free : ∀ {b : Addr} {o : Obj} {es : Array DictEntry} {ep : Nat}, s₁.heap.get? b = some o → o.data = .dict es ep → H b = none := fun {b o es ep} e d => by
      cases q : H b with
      | none => rfl
      | some u =>
        have e' := (hA b (by rw [q]; simp)).1
        subst e'
        rw [ha] at e
        cases e
        cases (show Data.seq vs.toArray _ = Data.dict es ep from d)
    have ns' : ∀ {b : Addr} {m : Str → Option Value}, s₁.heap.Ns b m → (hidT s₁.heap H).Ns b m := fun {b m} ⟨o, es, ep, e, d, r⟩ => ⟨o, es, ep, hidT_get e (free e d), d, r⟩
    have kin : K.In (hidT s₁.heap H) := fun b o e => hidT_get (KX b o e) (by
      cases q : H b with
      | none => rfl
      | some u =>
        obtain ⟨rfl, e'⟩ := hA b (by rw [q]; simp)
        rw [e'] at e; cases e)
    have hM : Mod K mg (hidT s₁.heap H) := ⟨kin, ns' hns, ⟨mb, ns' hb, hbb⟩, let ⟨mc, h1, h2⟩ := hlim; ⟨mc, ns' h1, h2⟩⟩
    have e0 : Env0 P w K mg (hidT s₁.heap H) callerA [] s₁ H := ⟨rfl, hM, fun b o e => of_hidT e, Nat.le_of_eq (hidT_size _ _), trivial, fun b hb => absurd (show b ∈ ([] : List Addr) from hb) (by simp), hok, .of_eq hg⟩
    obtain ⟨fa', fd, ps, h1, h2, h3, h4, F⟩ := all_fns tok hM n "law" hhas
    rw [hfa] at h1
    cases h1
    have hps : 1 = ps.length := h4 [.scr ns] none (by rw [hlaw]; exact fun z => nomatch z)
    obtain ⟨p0, hp0⟩ : ∃ p0, ps = [p0] := by
      match ps, hps with
      | [p0], _ => exact ⟨p0, rfl⟩
    subst hp0
    have hbd := h3 s₁ [.ref a] KX rfl
    refine codeAny_mono (F.run callerA [] s₁ H ⟨[.ref a], []⟩ [.ref a] [.ref a] (fun v _ => v = .bl true) (fun _ _ _ => False) hr rfl e0 hbd (.cons rfl .nil) ⟨rfl, H, none, none, [.scr ns], Same.refl _, trivial, .cons ⟨a, rfl, hS⟩ .nil, fun x hx => by cases List.mem_singleton.mp hx; rfl, ?_⟩) fun r s' h => ?_
    · rw [hlaw]
      intro u H' Hf' L' _ rv' _
      cases rv'
      rfl
    · cases r with
      | error e =>
        obtain ⟨_, _, _, _, _, _, _, _, _, _, _, _, f⟩ := h
        exact f.elim
      | ok fl =>
        cases fl with
        | next => exact False.elim h
        | brk => exact False.elim h
        | cont => exact False.elim h
        | ret u =>
          obtain ⟨v, H', os, bare, un, hok', r', q⟩ := h
          have q' : v = .bl true := q
          subst q'
          obtain rfl : u = Value.bool true := r'
          refine ⟨rfl, OldK.of_keep fun b o e => ?_, os, bare⟩
          cases q : H b with
          | none => exact un.keep b o e q (fun z => absurd (show b ∈ ([] : List Addr) from z) (by simp)) (by simp)
          | some u =>
            obtain ⟨ob, xs, rfl⟩ := hF b u q
            have e1 := (hok b _ q).1
            have e2 := (hok' b _ (un.frzs b ob _ q)).1
            rw [e] at e1
            cases e1
            exact e2
  cases hk : K.lookup a with
  | some o =>
    have e := KX a o hk
    rw [ha] at e
    cases e
    exact core (fun _ => none) (.inr ⟨_, vs.toArray, _, hk, rfl, rfl, rfl, by rw [List.size_toArray, hi.length]; exact hl, by simpa using rv⟩) (fun b u z => nomatch (show (none : Option HO) = some u from z)) (fun b z => absurd rfl z) fun b u z => nomatch (show (none : Option HO) = some u from z)
  | none =>
    let o0 : Obj := { cls := .type "list", data := .seq vs.toArray }
    have at_ : ∀ b u, (if b = a then some (HO.frz o0 (.lst (ns.map V.int))) else none) = some u → b = a ∧ u = .frz o0 (.lst (ns.map V.int)) := fun b u z => by
      split at z
      · exact ⟨by assumption, (Option.some.inj z).symm⟩
      · cases z
    refine core (fun b => if b = a then some (.frz o0 (.lst (ns.map V.int))) else none) (.inl (.inr ⟨o0, if_pos rfl⟩)) (fun b u z => ?_) (fun b z => ?_) fun b u z => ⟨_, _, (at_ b u z).2⟩
    · obtain ⟨rfl, rfl⟩ := at_ b u z
      exact ⟨ha, by rw [List.length_map]; exact hl, vs, _, rv, ha⟩
    · cases q : (if b = a then some (HO.frz o0 (.lst (ns.map V.int))) else none : Option HO) with
      | none => exact absurd q z
      | some u => exact ⟨(at_ b u q).1, hk⟩
theorem walk_law {l : PySem.W.OpenLaw} {m n : Nat} {q : Program} {loose : List Str} {XP : (Str → Option Value) → Heap → Prop} {d : DefRec} {t : Tx} {f : Nat}
    (hm : l.most = some m) (hm2 : m ≤ sizeLine) (hdf : d.params.defaults = []) (hd : d.name = ("law" : Str)) (hr : Room (1 + n) callerA)
    (hlaw : ∀ ns : List Int, ns.length ≤ m → ∃ dr, callN t.txt n "law" [.scr ns] none = .ok (.d (.bool true)) dr) :
    PySem.W.WalkO q loose XP (hookM l.prog t f).says l.row.toRowW d [] (fun f vs => PySem.call f vs) := by
  refine Att.attach_call hm hdf fun w s₀ s₁ mg mb fa o pm cd doc a vs ns G Y ho hd' hcd hmg hobj hints hlen hg => ?_
  obtain ⟨K, KX, ck⟩ := Y
  rw [hd] at hmg
  exact law_run KX G.T.g G.T.b G.T.builtins G.T.nolimit hg hobj hints (Nat.le_trans hlen hm2) hr ck hmg (hlaw ns hlen)
end Mini

set_option Elab.async false
set_option linter.all false
set_option maxRecDepth 100000
set_option maxHeartbeats 4000000
namespace Mini
open PySem
/-! ### the interpreter as rewriting -/
def Out.bnd {α β : Type} (o : Out α) (f : α → Sta → Out β) : Out β := match o with
  | .ok a s => f a s
  | .er e s => .er e s
  | .no => .no
theorem Out.bnd_congr {α β : Type} {o o' : Out α} {f : α → Sta → Out β} (h : o = o') : o.bnd f = o'.bnd f := by rw [h]
theorem bnd_ok {α β : Type} (a : α) (s : Sta) (f : α → Sta → Out β) : (Out.ok a s).bnd f = f a s := rfl
theorem bnd_er {α β : Type} (e : Err) (s : Sta) (f : α → Sta → Out β) : (Out.er e s : Out α).bnd f = .er e s := rfl
def brO {α : Type} (o : Out Bool) (x y : Sta → Out α) : Out α := o.bnd fun b s => match b with
  | true => x s
  | false => y s
theorem brO_congr {α : Type} {o o' : Out Bool} {x y : Sta → Out α} (h : o = o') : brO o x y = brO o' x y := by rw [h]
theorem br_t {α : Type} (s : Sta) (x y : Sta → Out α) : brO (.ok true s) x y = x s := rfl
theorem br_f {α : Type} (s : Sta) (x y : Sta → Out α) : brO (.ok false s) x y = y s := rfl
def ofO {α : Type} (o : Option α) (s : Sta) : Out α := match o with
  | some a => .ok a s
  | none => .no
theorem ofO_some {α : Type} (a : α) (s : Sta) : ofO (some a) s = .ok a s := rfl
theorem M_eq {α β : Type} (m : M α) (f : α → M β) (S : Sta) : M.bind m f S = (m S).bnd fun a s => f a s := by
  unfold M.bind Out.bnd
  cases m S <;> rfl
def slotO (o : Option (Option Val)) (S : Sta) : Out Val := match o with
  | some (some v) => .ok v S
  | _ => .no
theorem slotO_ok (v : Val) (S : Sta) : slotO (some (some v)) S = .ok v S := rfl
def useO (i : Nat) (o : Option (Option Val)) (S : Sta) : Out Val := match o with
  | some (some v) => match v with
    | .ol xs => .ok (.d (.list xs)) ⟨S.ρ.set i (some (.d (.list xs))), S.dr⟩
    | .od kvs => .ok (.d (.dict kvs)) ⟨S.ρ.set i (some (.d (.dict kvs))), S.dr⟩
    | .os _ => .no
    | v => .ok v S
  | _ => .no
theorem useO_d (i : Nat) (x : PyData) (S : Sta) : useO i (some (some (.d x))) S = .ok (.d x) S := rfl
theorem useO_drw (i : Nat) (S : Sta) : useO i (some (some .drw)) S = .ok .drw S := rfl
theorem useO_scr (i : Nat) (x : List Int) (S : Sta) : useO i (some (some (.scr x))) S = .ok (.scr x) S := rfl
theorem useO_ol (i : Nat) (x : List PyData) (S : Sta) : useO i (some (some (.ol x))) S = .ok (.d (.list x)) ⟨S.ρ.set i (some (.d (.list x))), S.dr⟩ := rfl
theorem useO_od (i : Nat) (x : List (PyData × PyData)) (S : Sta) : useO i (some (some (.od x))) S = .ok (.d (.dict x)) ⟨S.ρ.set i (some (.d (.dict x))), S.dr⟩ := rfl
def boolO (v : Val) (S : Sta) : Out Bool := match v with
  | .d (.bool b) => .ok b S
  | _ => .no
theorem boolO_ok (b : Bool) (S : Sta) : boolO (.d (.bool b)) S = .ok b S := rfl
def callO (o : FOut) (ρ : List (Option Val)) : Out Val := match o with
  | .ok v dr => .ok v ⟨ρ, dr⟩
  | .er e dr => .er e ⟨ρ, dr⟩
  | .no => .no
theorem callO_ok (v : Val) (dr : Option Draw) (ρ : List (Option Val)) : callO (.ok v dr) ρ = .ok v ⟨ρ, dr⟩ := rfl
theorem callO_er (e : Err) (dr : Option Draw) (ρ : List (Option Val)) : callO (.er e dr) ρ = .er e ⟨ρ, dr⟩ := rfl
section
variable (Γ : Env) (S : Sta) (m : Bool)
theorem r_var (i : Nat) (x : Str) : ev Γ (.var i x) false S = slotO S.ρ[i]? S := by
  show getSlot i S = _
  unfold getSlot slotO
  cases S.ρ[i]? with
  | none => rfl
  | some o => cases o <;> rfl
theorem r_use (i : Nat) (x : Str) : ev Γ (.var i x) true S = useO i S.ρ[i]? S := by
  show useSlot i S = _
  unfold useSlot useO
  cases S.ρ[i]? with
  | none => rfl
  | some o => cases o with
    | none => rfl
    | some v => cases v <;> rfl
theorem r_int (n : Int) : ev Γ (.int n) m S = .ok (.d (.int n)) S := rfl
theorem r_str (x : Str) : ev Γ (.str x) m S = .ok (.d (.str x)) S := rfl
theorem r_bl (b : Bool) : ev Γ (.bl b) m S = .ok (.d (.bool b)) S := rfl
theorem r_non : ev Γ .non m S = .ok (.d .none) S := rfl
theorem r_glob (x : Str) : ev Γ (.glob x) m S = ofO ((Γ.glob x).map Val.d) S := by
  show M.bind (M.of (Γ.glob x)) (fun d => M.ret (Val.d d)) S = _
  cases Γ.glob x <;> rfl
theorem r_tup (es : Es) : ev Γ (.tup es) m S = (evs Γ es S).bnd fun vs s => ofO (match datas vs with | some xs => if fits xs.length then some (Val.d (.tuple xs)) else none | none => none) s := by
  show M.bind (evs Γ es) (fun vs => M.bind (M.of (datas vs)) fun xs => if fits xs.length then M.ret (Val.d (.tuple xs)) else M.no) S = _
  rw [M_eq]
  congr 1
  funext vs s
  cases datas vs with
  | none => rfl
  | some xs =>
    show (if fits xs.length then M.ret (Val.d (.tuple xs)) else M.no) s = ofO (if fits xs.length then some (Val.d (.tuple xs)) else none) s
    split <;> rfl
theorem r_lst (es : Es) : ev Γ (.lst es) m S = (evs Γ es S).bnd fun vs s => ofO (match datas vs with | some xs => if fits xs.length then some (Val.ol xs) else none | none => none) s := by
  show M.bind (evs Γ es) (fun vs => M.bind (M.of (datas vs)) fun xs => if fits xs.length then M.ret (Val.ol xs) else M.no) S = _
  rw [M_eq]
  congr 1
  funext vs s
  cases datas vs with
  | none => rfl
  | some xs =>
    show (if fits xs.length then M.ret (Val.ol xs) else M.no) s = ofO (if fits xs.length then some (Val.ol xs) else none) s
    split <;> rfl
theorem r_bin (op : BOp) (a b : E) : ev Γ (.bin op a b) m S = (ev Γ a false S).bnd fun x s => (ev Γ b false s).bnd fun y s => ofO (binV op x y) s := by
  show M.bind (ev Γ a false) (fun x => M.bind (ev Γ b false) fun y => M.of (binV op x y)) S = _
  rw [M_eq]; congr 1
theorem r_neg (n : Int) : ev Γ (.neg (.int n)) m S = .ok (.d (.int (-n))) S := rfl
theorem boolM_eq (v : Val) : boolM v S = boolO v S := by
  cases v with
  | d x => cases x <;> rfl
  | _ => rfl
theorem r_not (a : E) : ev Γ (.not a) m S = (ev Γ a false S).bnd fun x s => (boolO x s).bnd fun b s => .ok (.d (.bool (!b))) s := by
  show M.bind (ev Γ a false) (fun x => M.bind (boolM x) fun b => M.ret (Mini.bl (!b))) S = _
  rw [M_eq]; congr 1; funext x s; rw [M_eq, boolM_eq]; rfl
theorem r_cmp (op : COp) (a b : E) : ev Γ (.cmp op a b) m S = (ev Γ a false S).bnd fun x s => (ev Γ b false s).bnd fun y s => ofO ((cmpV op x y).map fun b => Val.d (.bool b)) s := by
  show M.bind (ev Γ a false) (fun x => M.bind (ev Γ b false) fun y => M.bind (M.of (cmpV op x y)) fun z => M.ret (Mini.bl z)) S = _
  rw [M_eq]; congr 1; funext x s; rw [M_eq]; congr 1; funext y s
  cases cmpV op x y <;> rfl
theorem r_cmp2 (op op' : COp) (a b c : E) : ev Γ (.cmp2 op op' a b c) m S = (ev Γ a false S).bnd fun x s => (ev Γ b false s).bnd fun y s => brO (ofO (cmpV op x y) s) (fun s => (ev Γ c false s).bnd fun z s => ofO ((cmpV op' y z).map fun b => Val.d (.bool b)) s) (fun s => .ok (.d (.bool false)) s) := by
  show M.bind (ev Γ a false) (fun x => M.bind (ev Γ b false) fun y => M.bind (M.of (cmpV op x y)) fun t => if t = true then M.bind (ev Γ c false) (fun z => M.bind (M.of (cmpV op' y z)) fun r => M.ret (Mini.bl r)) else M.ret (Mini.bl false)) S = _
  rw [M_eq]; congr 1; funext x s; rw [M_eq]; congr 1; funext y s
  cases cmpV op x y with
  | none => rfl
  | some t =>
    cases t with
    | false => rfl
    | true =>
      show M.bind (ev Γ c false) (fun z => M.bind (M.of (cmpV op' y z)) fun r => M.ret (Mini.bl r)) s = (ev Γ c false s).bnd fun z s => ofO ((cmpV op' y z).map fun b => Val.d (.bool b)) s
      rw [M_eq]; congr 1; funext z s
      cases cmpV op' y z <;> rfl
theorem r_and1 (e : E) : evAnd Γ (.cons e .nil) S = (ev Γ e false S).bnd fun x s => (boolO x s).bnd fun b s => .ok (.d (.bool b)) s := by
  show M.bind (ev Γ e false) (fun x => M.bind (boolM x) fun b => M.ret (Mini.bl b)) S = _
  rw [M_eq]; congr 1; funext x s; rw [M_eq, boolM_eq]; rfl
theorem r_and2 (e e' : E) (r : Es) : evAnd Γ (.cons e (.cons e' r)) S = (ev Γ e false S).bnd fun x s => brO (boolO x s) (fun s => evAnd Γ (.cons e' r) s) (fun s => .ok (.d (.bool false)) s) := by
  show M.bind (ev Γ e false) (fun x => M.bind (boolM x) fun b => if b = true then evAnd Γ (.cons e' r) else M.ret (Mini.bl false)) S = _
  rw [M_eq]; congr 1; funext x s; rw [M_eq, boolM_eq]
  unfold brO; congr 1; funext b s; cases b <;> rfl
theorem r_and (es : Es) : ev Γ (.andV es) m S = evAnd Γ es S := rfl
theorem r_or1 (e : E) : evOr Γ (.cons e .nil) S = (ev Γ e false S).bnd fun x s => (boolO x s).bnd fun b s => .ok (.d (.bool b)) s := by
  show M.bind (ev Γ e false) (fun x => M.bind (boolM x) fun b => M.ret (Mini.bl b)) S = _
  rw [M_eq]; congr 1; funext x s; rw [M_eq, boolM_eq]; rfl
theorem r_or2 (e e' : E) (r : Es) : evOr Γ (.cons e (.cons e' r)) S = (ev Γ e false S).bnd fun x s => brO (boolO x s) (fun s => .ok (.d (.bool true)) s) (fun s => evOr Γ (.cons e' r) s) := by
  show M.bind (ev Γ e false) (fun x => M.bind (boolM x) fun b => if b = true then M.ret (Mini.bl true) else evOr Γ (.cons e' r)) S = _
  rw [M_eq]; congr 1; funext x s; rw [M_eq, boolM_eq]
  unfold brO; congr 1; funext b s; cases b <;> rfl
theorem r_or (es : Es) : ev Γ (.orV es) m S = evOr Γ es S := rfl
theorem r_ite (t : Tst) (a b : E) : ev Γ (.ite t a b) m S = brO (evt Γ t S) (fun s => ev Γ a m s) (fun s => ev Γ b m s) := by
  show M.bind (evt Γ t) (fun c => if c = true then ev Γ a m else ev Γ b m) S = _
  rw [M_eq]; unfold brO; congr 1; funext c s; cases c <;> rfl
theorem r_ix (a i : E) : ev Γ (.ix a i) m S = (ev Γ a false S).bnd fun x s => (ev Γ i false s).bnd fun y s => ofO (match y.dat with | some k => (ixD x k).map Val.d | none => none) s := by
  show M.bind (ev Γ a false) (fun x => M.bind (ev Γ i false) fun y => M.bind (datM y) fun k => M.bind (M.of (ixD x k)) fun z => M.ret (Val.d z)) S = _
  rw [M_eq]; congr 1; funext x s; rw [M_eq]; congr 1; funext y s
  show M.bind (M.of y.dat) _ s = _
  cases y.dat with
  | none => rfl
  | some k => show M.bind (M.of (ixD x k)) (fun z => M.ret (Val.d z)) s = ofO ((ixD x k).map Val.d) s; cases ixD x k <;> rfl
theorem r_o0 : evo Γ .none S = .ok none S := rfl
theorem r_oi (n : Int) : evo Γ (.some (.int n)) S = .ok (some n) S := rfl
theorem r_on (n : Int) : evo Γ (.some (.neg (.int n))) S = .ok (some (-n)) S := rfl
theorem r_sl (a : E) (lo hi : Oe) : ev Γ (.sl a lo hi) m S = (ev Γ a false S).bnd fun x s => (evo Γ lo s).bnd fun l s => (evo Γ hi s).bnd fun h s => ofO (slD x l h) s := by
  show M.bind (ev Γ a false) (fun x => M.bind (evo Γ lo) fun l => M.bind (evo Γ hi) fun h => M.of (slD x l h)) S = _
  rw [M_eq]; congr 1
theorem r_bi (b : Bi) (es : Es) : ev Γ (.bi b es) m S = (evb Γ es S).bnd fun vs s => ofO (biV b vs) s := by
  show M.bind (evb Γ es) (fun vs => M.of (biV b vs)) S = _
  rw [M_eq]; rfl
theorem r_b0 : evb Γ .nil S = .ok [] S := rfl
theorem r_b1 (e : E) (r : Es) : evb Γ (.cons e r) S = (ev Γ e false S).bnd fun v s => (evb Γ r s).bnd fun vs s => .ok (v :: vs) s := by
  show M.bind (ev Γ e false) (fun v => M.bind (evb Γ r) fun vs => M.ret (v :: vs)) S = _
  rw [M_eq]; congr 1
theorem r_s0 : evs Γ .nil S = .ok [] S := rfl
theorem r_s1 (e : E) (r : Es) : evs Γ (.cons e r) S = (ev Γ e true S).bnd fun v s => (ofO v.frz s).bnd fun v s => (evs Γ r s).bnd fun vs s => .ok (v :: vs) s := by
  show M.bind (ev Γ e true) (fun v => M.bind (frzM v) fun w => M.bind (evs Γ r) fun vs => M.ret (w :: vs)) S = _
  rw [M_eq]; congr 1
theorem r_me (k : Me) (o : E) (es : Es) (h : meKnown k = true) : ev Γ (.me k o es) m S = (ev Γ o false S).bnd fun x s => match meTy k x with | true => (evb Γ es s).bnd fun vs s => ofO (meV k x vs) s | false => .no := by
  show (if meKnown k then M.bind (ev Γ o false) (fun x => if meTy k x then M.bind (evb Γ es) fun vs => M.of (meV k x vs) else M.no) else M.no : M Val) S = _
  rw [h]
  show M.bind (ev Γ o false) (fun x => if meTy k x then M.bind (evb Γ es) fun vs => M.of (meV k x vs) else M.no) S = _
  rw [M_eq]; congr 1; funext x s
  cases meTy k x with
  | false => rfl
  | true => show M.bind (evb Γ es) (fun vs => M.of (meV k x vs)) s = (evb Γ es s).bnd fun vs s => ofO (meV k x vs) s; rw [M_eq]; rfl
theorem r_isi (a : E) (t : Ty) : ev Γ (.isi a t) m S = (ev Γ a false S).bnd fun x s => ofO ((isiV t x).map fun b => Val.d (.bool b)) s := by
  show M.bind (ev Γ a false) (fun x => M.bind (M.of (isiV t x)) fun b => M.ret (Mini.bl b)) S = _
  rw [M_eq]; congr 1; funext x s
  cases isiV t x <;> rfl
theorem r_call (f : Str) (es : Es) (h : Γ.has f = true) : ev Γ (.call f es) m S = (evs Γ es S).bnd fun vs s => callO (Γ.fns f vs s.dr) s.ρ := by
  show (if Γ.has f then M.bind (evs Γ es) (fun vs => callM Γ.fns f vs) else M.no : M Val) S = _
  rw [h]
  show M.bind (evs Γ es) (fun vs => callM Γ.fns f vs) S = _
  rw [M_eq]; congr 1
theorem r_te (a : E) : evt Γ (.e a) S = (ev Γ a false S).bnd fun x s => boolO x s := by
  show M.bind (ev Γ a false) boolM S = _
  rw [M_eq]; congr 1; funext x s; exact boolM_eq s x
theorem r_tand (ts : Tsts) : evt Γ (.and ts) S = evts Γ ts S := rfl
theorem r_tor (ts : Tsts) : evt Γ (.or ts) S = evto Γ ts S := rfl
theorem r_tnot (t : Tst) : evt Γ (.not t) S = (evt Γ t S).bnd fun b s => .ok (!b) s := by
  show M.bind (evt Γ t) (fun b => M.ret (!b)) S = _
  rw [M_eq]; rfl
theorem r_ta0 : evts Γ .nil S = .ok true S := rfl
theorem r_ta1 (t : Tst) (r : Tsts) : evts Γ (.cons t r) S = brO (evt Γ t S) (fun s => evts Γ r s) (fun s => .ok false s) := by
  show M.bind (evt Γ t) (fun b => if b = true then evts Γ r else M.ret false) S = _
  rw [M_eq]; unfold brO; congr 1; funext c s; cases c <;> rfl
theorem r_to0 : evto Γ .nil S = .ok false S := rfl
theorem r_to1 (t : Tst) (r : Tsts) : evto Γ (.cons t r) S = brO (evt Γ t S) (fun s => .ok true s) (fun s => evto Γ r s) := by
  show M.bind (evt Γ t) (fun b => if b = true then M.ret true else evto Γ r) S = _
  rw [M_eq]; unfold brO; congr 1; funext c s; cases c <;> rfl
end
end Mini

set_option Elab.async false
set_option linter.all false
set_option maxRecDepth 100000
set_option maxHeartbeats 4000000
namespace Mini
open PySem
def setO (i : Nat) (v : Val) (s : Sta) : Out Unit := match decide (i < s.ρ.length) with
  | true => .ok () ⟨s.ρ.set i (some v), s.dr⟩
  | false => .no
theorem setO_eq (i : Nat) (v : Val) (s : Sta) : setSlot i v s = setO i v s := by
  unfold setSlot setO
  by_cases h : i < s.ρ.length
  · rw [if_pos h, decide_eq_true h]
  · rw [if_neg h, decide_eq_false h]
theorem setO_ok {i : Nat} {v : Val} {ρ : List (Option Val)} {dr : Option Draw} (h : i < ρ.length) : setO i v ⟨ρ, dr⟩ = .ok () ⟨ρ.set i (some v), dr⟩ := by
  unfold setO
  rw [decide_eq_true h]
theorem a_nm (i : Nat) (x : Str) (v : Val) (s : Sta) : asgT (.nm i x) v s = setO i v s := setO_eq i v s
theorem a_tp1 (a : Tg) (x : PyData) (s : Sta) : asgT (.tp1 a) (.d (.tuple [x])) s = asgT a (.d x) s := rfl
theorem a_tp2 (a b : Tg) (x y : PyData) (s : Sta) : asgT (.tp2 a b) (.d (.tuple [x, y])) s = (asgT a (.d x) s).bnd fun _ s => asgT b (.d y) s := M_eq _ _ _
theorem a_tp3 (a b c : Tg) (x y z : PyData) (s : Sta) : asgT (.tp3 a b c) (.d (.tuple [x, y, z])) s = (asgT a (.d x) s).bnd fun _ s => (asgT b (.d y) s).bnd fun _ s => asgT c (.d z) s := by
  show M.bind (asgT a (.d x)) (fun _ => M.bind (asgT b (.d y)) fun _ => asgT c (.d z)) s = _
  rw [M_eq]; congr 1
theorem a_tp4 (a b c d : Tg) (x y z u : PyData) (s : Sta) : asgT (.tp4 a b c d) (.d (.tuple [x, y, z, u])) s = (asgT a (.d x) s).bnd fun _ s => (asgT b (.d y) s).bnd fun _ s => (asgT c (.d z) s).bnd fun _ s => asgT d (.d u) s := by
  show M.bind (asgT a (.d x)) (fun _ => M.bind (asgT b (.d y)) fun _ => M.bind (asgT c (.d z)) fun _ => asgT d (.d u)) s = _
  rw [M_eq]; congr 1
def flwO (f : Flw) (s : Sta) (k : Sta → Out Flw) : Out Flw := match f with
  | .nx => k s
  | f => .ok f s
theorem flw_nx (s : Sta) (k : Sta → Out Flw) : flwO .nx s k = k s := rfl
theorem flw_rt (v : Val) (s : Sta) (k : Sta → Out Flw) : flwO (.rt v) s k = .ok (.rt v) s := rfl
theorem flw_bk (s : Sta) (k : Sta → Out Flw) : flwO .bk s k = .ok .bk s := rfl
theorem flw_ct (s : Sta) (k : Sta → Out Flw) : flwO .ct s k = .ok .ct s := rfl
theorem flwO_congr {f f' : Flw} {s s' : Sta} {k : Sta → Out Flw} (h : f = f') (h2 : s = s') : flwO f s k = flwO f' s' k := by rw [h, h2]
def trO (o : Out Flw) (h : Hd) : Out Flw := match o with
  | .er e s => handle h e s
  | o => o
theorem tr_ok (f : Flw) (s : Sta) (h : Hd) : trO (.ok f s) h = .ok f s := rfl
theorem tr_er (e : Err) (s : Sta) (h : Hd) : trO (.er e s) h = handle h e s := rfl
def enmV (v : Val) : Option (List PyData) := match v with
  | .d (.list xs) => some (enumL 0 xs)
  | .d (.tuple xs) => some (enumL 0 xs)
  | _ => none
def rngV (v : Val) : Option (List PyData) := match v with
  | .d (.int n) => if rngOk n then some (rngL 0 n) else none
  | _ => none
def forStep (Γ : Env) (tg : Tg) (b : Ss) (x : PyData) : M Flw := fun s => (asgT tg (.d x) s).bnd fun _ s => execs Γ b s
section
variable (Γ : Env) (S : Sta)
theorem x_asg (tg : Tg) (e : E) : exec Γ (.asg tg e) S = (ev Γ e true S).bnd fun v s => (asgT tg v s).bnd fun _ s => .ok .nx s := by
  show M.bind (ev Γ e true) (fun v => M.bind (asgT tg v) fun _ => M.ret Flw.nx) S = _
  rw [M_eq]; congr 1
theorem x_ex (e : E) : exec Γ (.ex e) S = (ev Γ e true S).bnd fun _ s => .ok .nx s := by
  show M.bind (ev Γ e true) (fun v => M.ret Flw.nx) S = _
  rw [M_eq]; rfl
theorem x_ret (e : E) : exec Γ (.ret e) S = (ev Γ e true S).bnd fun v s => .ok (.rt v) s := by
  show M.bind (ev Γ e true) (fun v => M.ret (Flw.rt v)) S = _
  rw [M_eq]; rfl
theorem x_retV (i : Nat) (x : Str) : exec Γ (.retV i x) S = (slotO S.ρ[i]? S).bnd fun v s => .ok (.rt v) s := by
  show M.bind (getSlot i) (fun v => M.ret (Flw.rt v)) S = _
  rw [M_eq, ← r_var Γ S i x]; rfl
theorem x_ret0 : exec Γ .ret0 S = .ok (.rt (.d .none)) S := rfl
theorem x_ite (t : Tst) (a b : Ss) : exec Γ (.ite t a b) S = brO (evt Γ t S) (fun s => execs Γ a s) (fun s => execs Γ b s) := by
  show M.bind (evt Γ t) (fun c => if c = true then execs Γ a else execs Γ b) S = _
  rw [M_eq]; unfold brO; congr 1; funext c s; cases c <;> rfl
theorem x_for (tg : Tg) (it : Itr) (b : Ss) : exec Γ (.for_ tg it b) S = (evi Γ it S).bnd fun xs s => forGo (forStep Γ tg b) xs s := by
  show M.bind (evi Γ it) (fun xs => forGo (fun x => M.bind (asgT tg (.d x)) fun _ => execs Γ b) xs) S = _
  rw [M_eq]
  have : (fun x => M.bind (asgT tg (.d x)) fun _ => execs Γ b) = forStep Γ tg b := by
    funext x s
    show M.bind (asgT tg (.d x)) (fun _ => execs Γ b) s = _
    rw [M_eq]; rfl
  rw [this]
theorem x_app (i : Nat) (x : Str) (e : E) : exec Γ (.app i x e) S = (slotO S.ρ[i]? S).bnd fun o s => match isOl o with | true => (ev Γ e true s).bnd fun v s => (ofO (Mini.getD v) s).bnd fun v s => (slotO s.ρ[i]? s).bnd fun o s => (ofO (appV o [v]) s).bnd fun w s => (setO i w s).bnd fun _ s => .ok .nx s | false => .no := by
  show M.bind (getSlot i) (fun o => if isOl o = true then M.bind (ev Γ e true) (fun v => M.bind (M.of (Mini.getD v)) fun y => M.bind (getSlot i) fun o => M.bind (M.of (appV o [y])) fun w => M.bind (setSlot i w) fun _ => M.ret Flw.nx) else M.no) S = _
  rw [M_eq, ← r_var Γ S i x]; congr 1; funext o s
  cases isOl o with
  | false => rfl
  | true =>
    show M.bind (ev Γ e true) (fun v => M.bind (M.of (Mini.getD v)) fun y => M.bind (getSlot i) fun o => M.bind (M.of (appV o [y])) fun w => M.bind (setSlot i w) fun _ => M.ret Flw.nx) s = (ev Γ e true s).bnd fun v s => (ofO (Mini.getD v) s).bnd fun v s => (slotO s.ρ[i]? s).bnd fun o s => (ofO (appV o [v]) s).bnd fun w s => (setO i w s).bnd fun _ s => .ok .nx s
    rw [M_eq]; congr 1; funext v s; rw [M_eq]
    show (ofO (Mini.getD v) s).bnd _ = _
    congr 1; funext y s; rw [M_eq, ← r_var Γ s i x]; congr 1; funext o s; rw [M_eq]
    show (ofO (appV o [y]) s).bnd _ = _
    congr 1; funext w s; rw [M_eq, setO_eq]; rfl
theorem x_aug (i : Nat) (x : Str) (op : BOp) (e : E) : exec Γ (.aug i x op e) S = (slotO S.ρ[i]? S).bnd fun v s => (ev Γ e false s).bnd fun w s => (ofO (augV op v w) s).bnd fun w s => (setO i w s).bnd fun _ s => .ok .nx s := by
  show M.bind (getSlot i) (fun v => M.bind (ev Γ e false) fun w => M.bind (M.of (augV op v w)) fun u => M.bind (setSlot i u) fun _ => M.ret Flw.nx) S = _
  rw [M_eq, ← r_var Γ S i x]; congr 1; funext o s; rw [M_eq]; congr 1; funext w s; rw [M_eq]
  show (ofO (augV op o w) s).bnd _ = _
  congr 1; funext w s; rw [M_eq, setO_eq]; rfl
theorem x_raise (c : Str) (es : Es) (h : (Γ.exc c).isSome = true) : exec Γ (.raise c es) S = (evs Γ es S).bnd fun vs s => match datas vs with | some xs => (match excOf Γ c xs with | some e => .er e s | none => .no) | none => .no := by
  show (if (Γ.exc c).isSome then M.bind (evs Γ es) (fun vs => M.bind (M.of (datas vs)) fun xs => M.bind (M.of (excOf Γ c xs)) fun e => fun s => Out.er e s) else M.no : M Flw) S = _
  rw [h]
  show M.bind (evs Γ es) (fun vs => M.bind (M.of (datas vs)) fun xs => M.bind (M.of (excOf Γ c xs)) fun e => fun s => Out.er e s) S = _
  rw [M_eq]; congr 1; funext vs s
  cases datas vs with
  | none => rfl
  | some xs => show M.bind (M.of (excOf Γ c xs)) (fun e => fun s => Out.er e s) s = (match excOf Γ c xs with | some e => .er e s | none => .no); cases excOf Γ c xs <;> rfl
theorem x_tr (b : Ss) (h : Hd) : exec Γ (.tr b h) S = trO (execs Γ b S) h := by
  show (match execs Γ b S with | .er e s' => handle h e s' | o => o) = _
  unfold trO
  cases execs Γ b S <;> rfl
theorem xs_nil : execs Γ .nil S = .ok .nx S := rfl
theorem xs_cons (s : Mini.S) (r : Ss) : execs Γ (.cons s r) S = (exec Γ s S).bnd fun f s => flwO f s fun s => execs Γ r s := by
  show M.bind (exec Γ s) (fun f => match f with | .nx => execs Γ r | f => M.ret f) S = _
  rw [M_eq]; congr 1; funext f s; cases f <;> rfl
theorem i_plv (e : E) : evi Γ (.pl e) S = (ev Γ e true S).bnd fun v s => (ofO v.frz s).bnd fun v s => ofO (itemsV v) s := by
  show M.bind (ev Γ e true) (fun v => M.bind (frzM v) fun w => M.of (itemsV w)) S = _
  rw [M_eq]; congr 1
theorem i_rng (e : E) : evi Γ (.rng1 e) S = (ev Γ e false S).bnd fun v s => ofO (rngV v) s := by
  show M.bind (ev Γ e false) (fun v => match v with | .d (.int n) => (if rngOk n then M.ret (rngL 0 n) else M.no) | _ => M.no) S = _
  rw [M_eq]; congr 1; funext v s
  cases v with
  | d x =>
    cases x with
    | int n => show (if rngOk n then M.ret (rngL 0 n) else M.no) s = ofO (if rngOk n then some (rngL 0 n) else none) s; split <;> rfl
    | _ => rfl
  | _ => rfl
theorem i_enmv (e : E) : evi Γ (.enm e) S = (ev Γ e true S).bnd fun v s => (ofO v.frz s).bnd fun v s => ofO (enmV v) s := by
  show M.bind (ev Γ e true) (fun v => M.bind (frzM v) fun w => match w with | .d (.list xs) => M.ret (enumL 0 xs) | .d (.tuple xs) => M.ret (enumL 0 xs) | _ => M.no) S = _
  rw [M_eq]; congr 1; funext v s; rw [M_eq]
  show (ofO v.frz s).bnd _ = _
  congr 1; funext w s
  cases w with
  | d x => cases x <;> rfl
  | _ => rfl
end
/-! ### calls -/
def finO (o : Out Flw) : FOut := match o with
  | .ok (.rt v) s => .ok v s.dr
  | .ok .nx s => .ok (.d .none) s.dr
  | .ok _ _ => .no
  | .er e s => .er e s.dr
  | .no => .no
theorem fin_rt (v : Val) (s : Sta) : finO (.ok (.rt v) s) = .ok v s.dr := rfl
theorem fin_nx (s : Sta) : finO (.ok .nx s) = .ok (.d .none) s.dr := rfl
theorem fin_er (e : Err) (s : Sta) : finO (.er e s) = .er e s.dr := rfl
theorem call_fd {T : Txt} {n : Nat} {f : Str} {fd : Fd} {vs : List Val} {dr : Option Draw} (hp : T.prim f = none) (hf : T.fds.lookup f = some fd) (hl : vs.length = fd.ps.length) : callN T (n + 1) f vs dr = finO (execs (T.env n) fd.body ⟨startR fd.N.length vs, dr⟩) := by
  show (match T.prim f with | some p => p vs dr | none => match T.fds.lookup f with | some fd => runFd ⟨T.has, callN T n, T.glob, T.exc⟩ fd vs dr | none => .no) = _
  rw [hp, hf]
  show runFd ⟨T.has, callN T n, T.glob, T.exc⟩ fd vs dr = _
  unfold runFd
  rw [if_pos hl]
  unfold finO
  cases execs (T.env n) fd.body ⟨startR fd.N.length vs, dr⟩ with
  | ok f s => cases f <;> rfl
  | er e s => rfl
  | no => rfl
/-! ### loops -/
theorem for_nx {Γ : Env} {tg : Tg} {b : Ss} : ∀ {xs : List PyData} {S : Sta} (I : Nat → Sta → Prop), I 0 S → (∀ i x S, xs[i]? = some x → I i S → ∃ S', forStep Γ tg b x S = .ok .nx S' ∧ I (i + 1) S') → ∃ S', forGo (forStep Γ tg b) xs S = .ok .nx S' ∧ I xs.length S'
  | [], S, I, h0, _ => ⟨S, rfl, h0⟩
  | x :: r, S, I, h0, hs => by
    obtain ⟨S1, e1, h1⟩ := hs 0 x S rfl h0
    obtain ⟨S2, e2, h2⟩ := for_nx (xs := r) (S := S1) (fun i S => I (i + 1) S) h1 fun i y S' hy hi => hs (i + 1) y S' (by simpa using hy) hi
    refine ⟨S2, ?_, h2⟩
    show M.bind (forStep Γ tg b x) (fun f => match f with | .nx => forGo (forStep Γ tg b) r | .ct => forGo (forStep Γ tg b) r | .bk => M.ret Flw.nx | .rt v => M.ret (.rt v)) S = _
    rw [bind_ok e1]
    exact e2
/-- a draw -/
structure Bd (d : Draw) (n : Nat) : Prop where
  lo : 0 ≤ d.count
  hi : d.count + n < 1152921504606846976
theorem skip_cnt (d : Draw) (w : Int) : (nextD d w).2.count = d.count ∨ (nextD d w).2.count = d.count + 1 := by
  unfold nextD
  cases skip0 d.left <;> simp
theorem next_ok {T : Txt} {n k : Nat} {d : Draw} {w : Int} (hp : T.prim "_law_next" = some nextP) (b : Bd d (n + 1)) (h0 : 0 < w) (h1 : w < 1073741824) : ∃ v d', callN T (k + 1) "_law_next" [.drw, .d (.int w)] (some d) = .ok (.d (.int v)) (some d') ∧ 0 ≤ v ∧ v < w ∧ Bd d' n := by
  have hb := b.hi
  have hl := b.lo
  refine ⟨(nextD d w).1, (nextD d w).2, ?_, ?_, ?_, ?_, ?_⟩
  · show (match T.prim "_law_next" with | some p => p [.drw, .d (.int w)] (some d) | none => _) = _
    rw [hp]
    show (if nextOk d w then _ else _) = _
    rw [if_pos (by unfold nextOk; simp only [Bool.and_eq_true, decide_eq_true_eq]; omega)]
  · unfold nextD
    cases skip0 d.left <;> exact Int.fmod_nonneg_of_pos _ h0
  · unfold nextD
    cases skip0 d.left <;> exact Int.fmod_lt_of_pos _ h0
  · rcases skip_cnt d w with e | e <;> omega
  · rcases skip_cnt d w with e | e <;> omega
end Mini

set_option Elab.async false
set_option linter.all false
set_option maxRecDepth 100000
set_option maxHeartbeats 4000000
namespace Mini
open PySem
/-! ### comprehensions -/
theorem wipeR_get (ρ : List (Option Val)) : ∀ (vs : List Nat) (i : Nat), i ∉ vs → (wipeR ρ vs)[i]? = ρ[i]?
  | [], _, _ => rfl
  | v :: vs, i, h => by
    unfold wipeR
    rw [List.getElem?_set_ne (fun z => h (by rw [z]; exact List.mem_cons_self ..)), wipeR_get ρ vs i fun z => h (List.mem_cons_of_mem _ z)]
theorem backR_get (ρ₀ ρ : List (Option Val)) : ∀ (vs : List Nat) (i : Nat), (backR ρ₀ ρ vs)[i]? = if i ∈ vs then (if i < ρ.length then some ((ρ₀[i]?).getD none) else none) else ρ[i]?
  | [], _ => by simp [backR]
  | v :: vs, i => by
    have hl : ∀ vs : List Nat, (backR ρ₀ ρ vs).length = ρ.length := fun vs => by
      induction vs with
      | nil => rfl
      | cons v vs ih => unfold backR; rw [List.length_set, ih]
    unfold backR
    by_cases h : v = i
    · subst h
      rw [if_pos (List.mem_cons_self ..)]
      by_cases hi : v < ρ.length
      · rw [if_pos hi, List.getElem?_set_self (by rw [hl]; exact hi)]
      · rw [if_neg hi, List.getElem?_eq_none (by rw [List.length_set, hl]; omega)]
    · rw [List.getElem?_set_ne h, backR_get ρ₀ ρ vs i]
      by_cases h2 : i ∈ vs
      · rw [if_pos h2, if_pos (List.mem_cons_of_mem _ h2)]
      · rw [if_neg h2, if_neg (fun z => by rcases List.mem_cons.mp z with e | e; exact h e.symm; exact h2 e)]
theorem back_of {ρ₀ ρ : List (Option Val)} {vs : List Nat} (h : wipeR ρ vs = wipeR ρ₀ vs) : backR ρ₀ ρ vs = ρ₀ := by
  have hl : ρ.length = ρ₀.length := by rw [← wipeR_len ρ vs, h, wipeR_len]
  apply List.ext_getElem?
  intro i
  rw [backR_get]
  by_cases hi : i ∈ vs
  · rw [if_pos hi]
    by_cases hlt : i < ρ.length
    · rw [if_pos hlt, List.getElem?_eq_getElem (by omega)]; rfl
    · rw [if_neg hlt, List.getElem?_eq_none (by omega)]
  · rw [if_neg hi, ← wipeR_get ρ vs i hi, h, wipeR_get _ _ _ hi]
def lcBody (Γ : Env) (tg : Tg) (ts : Tsts) (elt : E) (x : PyData) (s : Sta) : Out (Option PyData) := (asgT tg (.d x) s).bnd fun _ s => brO (evts Γ ts s) (fun s => (ev Γ elt true s).bnd fun v s => (ofO (Mini.getD v) s).bnd fun y s => .ok (some y) s) (fun s => .ok none s)
theorem lcStep_eq (Γ : Env) (vs : List Nat) (tg : Tg) (ts : Tsts) (elt : E) (x : PyData) (s : Sta) : lcStep Γ vs tg ts elt x s = lcBody Γ tg ts elt x ⟨wipeR s.ρ vs, s.dr⟩ := by
  show M.bind (wipeM vs) (fun _ => M.bind (asgT tg (.d x)) fun _ => M.bind (evts Γ ts) fun b => if b = true then M.bind (ev Γ elt true) (fun v => M.bind (M.of (Mini.getD v)) fun y => M.ret (some y)) else M.ret none) s = _
  show M.bind (asgT tg (.d x)) (fun _ => M.bind (evts Γ ts) fun b => if b = true then M.bind (ev Γ elt true) (fun v => M.bind (M.of (Mini.getD v)) fun y => M.ret (some y)) else M.ret none) ⟨wipeR s.ρ vs, s.dr⟩ = _
  rw [M_eq]; unfold lcBody; congr 1; funext _ s; rw [M_eq]; unfold brO; congr 1; funext b s
  cases b with
  | false => rfl
  | true =>
    show M.bind (ev Γ elt true) (fun v => M.bind (M.of (Mini.getD v)) fun y => M.ret (some y)) s = (ev Γ elt true s).bnd fun v s => (ofO (Mini.getD v) s).bnd fun y s => .ok (some y) s
    rw [M_eq]; congr 1
/-- its turns, by an invariant -/
theorem lc_go {Γ : Env} {vs : List Nat} {tg : Tg} {ts : Tsts} {elt : E} {ρ₀ : List (Option Val)} : ∀ {xs acc : List PyData} {S : Sta} (I : Nat → List PyData → Option Draw → Prop), wipeR S.ρ vs = wipeR ρ₀ vs → I 0 acc S.dr →
    (∀ i x acc dr, xs[i]? = some x → I i acc dr → acc.length < sizeLine ∧ ∃ o ρ' dr', wipeR ρ' vs = wipeR ρ₀ vs ∧ lcBody Γ tg ts elt x ⟨wipeR ρ₀ vs, dr⟩ = .ok o ⟨ρ', dr'⟩ ∧ I (i + 1) (acc ++ o.toList) dr') →
    ∃ ys S', lcGo (lcStep Γ vs tg ts elt) xs acc S = .ok ys S' ∧ wipeR S'.ρ vs = wipeR ρ₀ vs ∧ I xs.length ys S'.dr
  | [], acc, S, I, hw, h0, _ => ⟨acc, S, rfl, hw, h0⟩
  | x :: r, acc, S, I, hw, h0, hs => by
    obtain ⟨hl, o, ρ', dr', w1, e1, i1⟩ := hs 0 x acc S.dr rfl h0
    obtain ⟨ys, S', e2, w2, i2⟩ := lc_go (xs := r) (acc := acc ++ o.toList) (S := ⟨ρ', dr'⟩) (fun i acc dr => I (i + 1) acc dr) w1 i1 fun i y acc dr hy hi => hs (i + 1) y acc dr (by simpa using hy) hi
    refine ⟨ys, S', ?_, w2, i2⟩
    have e : lcStep Γ vs tg ts elt x S = .ok o ⟨ρ', dr'⟩ := by rw [lcStep_eq, hw]; exact e1
    show M.bind (lcStep Γ vs tg ts elt x) (fun o => match o with | some y => if acc.length < sizeLine then lcGo (lcStep Γ vs tg ts elt) r (acc ++ [y]) else M.no | none => lcGo (lcStep Γ vs tg ts elt) r acc) S = _
    rw [bind_ok e]
    cases o with
    | none => simpa using e2
    | some y =>
      show (if acc.length < sizeLine then lcGo (lcStep Γ vs tg ts elt) r (acc ++ [y]) else M.no) _ = _
      rw [if_pos hl]; exact e2
def freeSlots (vs : List Nat) (ρ : List (Option Val)) : Bool := vs.all fun v => match ρ[v]? with
  | some (some x) => !x.owned
  | _ => true
theorem wipe_idem (ρ : List (Option Val)) (vs : List Nat) : wipeR (wipeR ρ vs) vs = wipeR ρ vs := wipeR_idem ρ vs
theorem ev_lcI {Γ : Env} {own : List (Str × Nat)} {tg : Tg} {it : Itr} {ts : Tsts} {elt : E} {m : Bool} {S S1 : Sta} {xs : List PyData} (I : Nat → List PyData → Option Draw → Prop) (hi : evi Γ it S = .ok xs S1) (hf : freeSlots (own.map (·.2)) S1.ρ = true) (h0 : I 0 [] S1.dr)
    (hs : ∀ i x acc dr, xs[i]? = some x → I i acc dr → acc.length < sizeLine ∧ ∃ o ρ' dr', wipeR ρ' (own.map (·.2)) = wipeR S1.ρ (own.map (·.2)) ∧ lcBody Γ tg ts elt x ⟨wipeR S1.ρ (own.map (·.2)), dr⟩ = .ok o ⟨ρ', dr'⟩ ∧ I (i + 1) (acc ++ o.toList) dr') :
    ∃ ys dr', ev Γ (.lc own tg it ts elt) m S = .ok (.ol ys) ⟨S1.ρ, dr'⟩ ∧ I xs.length ys dr' := by
  obtain ⟨ys, S', e, w, i⟩ := lc_go (Γ := Γ) (tg := tg) (ts := ts) (elt := elt) (vs := own.map (·.2)) (ρ₀ := S1.ρ) (xs := xs) (acc := []) (S := ⟨wipeR S1.ρ (own.map (·.2)), S1.dr⟩) I (wipe_idem _ _) h0 hs
  refine ⟨ys, S'.dr, ?_, i⟩
  rw [ev_lc, bind_ok hi]
  refine (bind_ok (a := ys) (S1 := ⟨S1.ρ, S'.dr⟩) ?_).trans rfl
  unfold blockM
  refine (if_pos hf).trans ?_
  rw [e]
  show Out.ok ys ⟨backR S1.ρ S'.ρ (own.map fun x => x.2), S'.dr⟩ = _
  rw [back_of w]
/-- one that draws nothing -/
theorem ev_lcP {Γ : Env} {own : List (Str × Nat)} {tg : Tg} {it : Itr} {ts : Tsts} {elt : E} {m : Bool} {S S1 : Sta} {xs : List PyData} (f : PyData → Option PyData) (hi : evi Γ it S = .ok xs S1) (hf : freeSlots (own.map (·.2)) S1.ρ = true) (hl : xs.length ≤ sizeLine)
    (hs : ∀ x ∈ xs, ∃ ρ', wipeR ρ' (own.map (·.2)) = wipeR S1.ρ (own.map (·.2)) ∧ lcBody Γ tg ts elt x ⟨wipeR S1.ρ (own.map (·.2)), S1.dr⟩ = .ok (f x) ⟨ρ', S1.dr⟩) :
    ev Γ (.lc own tg it ts elt) m S = .ok (.ol (xs.filterMap f)) S1 := by
  have step : ∀ i x acc dr, xs[i]? = some x → (acc = (xs.take i).filterMap f ∧ dr = S1.dr) → acc.length < sizeLine ∧ ∃ o ρ' dr', wipeR ρ' (own.map (·.2)) = wipeR S1.ρ (own.map (·.2)) ∧ lcBody Γ tg ts elt x ⟨wipeR S1.ρ (own.map (·.2)), dr⟩ = .ok o ⟨ρ', dr'⟩ ∧ (acc ++ o.toList = (xs.take (i + 1)).filterMap f ∧ dr' = S1.dr) := fun i x acc dr hx ⟨ha, hd⟩ => by
    have hlt : i < xs.length := by
      by_cases h : i < xs.length
      · exact h
      · rw [List.getElem?_eq_none (by omega)] at hx; cases hx
    have hle : acc.length ≤ i := by rw [ha]; exact Nat.le_trans (List.length_filterMap_le _ _) (by rw [List.length_take]; omega)
    obtain ⟨ρ', w, e⟩ := hs x (List.mem_of_getElem? hx)
    subst hd
    refine ⟨by omega, f x, ρ', S1.dr, w, e, ?_, rfl⟩
    have ht : xs.take (i + 1) = xs.take i ++ [x] := by rw [List.take_add_one, hx]; rfl
    rw [ha, ht, List.filterMap_append]
    congr 1
  obtain ⟨ys, dr', e, ei, ed⟩ := ev_lcI (m := m) (tg := tg) (ts := ts) (elt := elt) (fun i acc dr => acc = (xs.take i).filterMap f ∧ dr = S1.dr) hi hf ⟨rfl, rfl⟩ step
  rw [e, ei, ed, List.take_length]
end Mini

set_option Elab.async false
set_option linter.all false
set_option maxRecDepth 100000
set_option maxHeartbeats 4000000
namespace Mini
open PySem
/-! ### comprehensions that fill a set, a dict: nothing is drawn -/
def nextI {α β : Type} (cond : α → β → Bool) (put : α → β → α) (I : Nat → α → Prop) (n : Nat) (acc : α) (o : Option β) : Prop := match o with
  | none => I n acc
  | some y => cond acc y = true ∧ I n (put acc y)
theorem c_go {α β : Type} {cond : α → β → Bool} {put : α → β → α} {step : PyData → M (Option β)} {vs : List Nat} {body : PyData → Sta → Out (Option β)} (hst : ∀ x s, step x s = body x ⟨wipeR s.ρ vs, s.dr⟩) {ρ₀ : List (Option Val)} {dr : Option Draw} :
    ∀ {xs : List PyData} {acc : α} {ρ : List (Option Val)} (I : Nat → α → Prop), wipeR ρ vs = wipeR ρ₀ vs → I 0 acc →
    (∀ i x acc, xs[i]? = some x → I i acc → ∃ o ρ', wipeR ρ' vs = wipeR ρ₀ vs ∧ body x ⟨wipeR ρ₀ vs, dr⟩ = .ok o ⟨ρ', dr⟩ ∧ nextI cond put I (i + 1) acc o) →
    ∃ a ρ', cGo cond put step xs acc ⟨ρ, dr⟩ = .ok a ⟨ρ', dr⟩ ∧ wipeR ρ' vs = wipeR ρ₀ vs ∧ I xs.length a
  | [], acc, ρ, I, hw, h0, _ => ⟨acc, ρ, rfl, hw, h0⟩
  | x :: r, acc, ρ, I, hw, h0, hs => by
    obtain ⟨o, ρ', w1, e1, i1⟩ := hs 0 x acc rfl h0
    have e : step x ⟨ρ, dr⟩ = .ok o ⟨ρ', dr⟩ := by rw [hst, show wipeR (Sta.mk ρ dr).ρ vs = wipeR ρ₀ vs from hw]; exact e1
    have go : ∀ acc', I 1 acc' → ∃ a ρ'', cGo cond put step r acc' ⟨ρ', dr⟩ = .ok a ⟨ρ'', dr⟩ ∧ wipeR ρ'' vs = wipeR ρ₀ vs ∧ I (r.length + 1) a := fun acc' hi =>
      c_go hst (xs := r) (fun i a => I (i + 1) a) w1 hi fun i y acc hy hi => hs (i + 1) y acc (by simpa using hy) hi
    have ec : cGo cond put step (x :: r) acc ⟨ρ, dr⟩ = M.bind (step x) (fun o => match o with | some y => if cond acc y then cGo cond put step r (put acc y) else M.no | none => cGo cond put step r acc) ⟨ρ, dr⟩ := rfl
    rw [ec, bind_ok e]
    cases o with
    | none => exact go acc i1
    | some y =>
      show ∃ a ρ', (if cond acc y = true then cGo cond put step r (put acc y) else M.no) ⟨_, dr⟩ = _ ∧ _
      rw [if_pos i1.1]
      exact go _ i1.2
theorem blk_ok {α : Type} {vs : List Nat} {mm : M α} {ρ ρ' : List (Option Val)} {dr dr' : Option Draw} {a : α} (hf : freeSlots vs ρ = true) (h : mm ⟨wipeR ρ vs, dr⟩ = .ok a ⟨ρ', dr'⟩) (hw : wipeR ρ' vs = wipeR ρ vs) : blockM vs mm ⟨ρ, dr⟩ = .ok a ⟨ρ, dr'⟩ := by
  unfold blockM
  refine (if_pos hf).trans ?_
  show (match mm ⟨wipeR ρ vs, dr⟩ with | .ok a s' => Out.ok a { s' with ρ := backR ρ s'.ρ vs } | _ => .no) = _
  rw [h]
  show Out.ok a ⟨backR ρ ρ' vs, dr'⟩ = _
  rw [back_of hw]
def dcBody (Γ : Env) (tg : Tg) (ts : Tsts) (k v : E) (x : PyData) (s : Sta) : Out (Option (PyData × PyData)) := (asgT tg (.d x) s).bnd fun _ s => brO (evts Γ ts s) (fun s => (ev Γ k true s).bnd fun a s => (ofO (Mini.getD a) s).bnd fun a s => (ev Γ v true s).bnd fun b s => (ofO (Mini.getD b) s).bnd fun b s => .ok (some (a, b)) s) (fun s => .ok none s)
theorem ev_scI {Γ : Env} {own : List (Str × Nat)} {tg : Tg} {it : Itr} {ts : Tsts} {elt : E} {m : Bool} {S : Sta} {ρ : List (Option Val)} {dr : Option Draw} {xs : List PyData} (I : Nat → List PyData → Prop) (hi : evi Γ it S = .ok xs ⟨ρ, dr⟩) (hf : freeSlots (own.map (·.2)) ρ = true) (h0 : I 0 [])
    (hs : ∀ i x acc, xs[i]? = some x → I i acc → ∃ o ρ', wipeR ρ' (own.map (·.2)) = wipeR ρ (own.map (·.2)) ∧ lcBody Γ tg ts elt x ⟨wipeR ρ (own.map (·.2)), dr⟩ = .ok o ⟨ρ', dr⟩ ∧ nextI scCond sPut I (i + 1) acc o) :
    ∃ ys, ev Γ (.sc own tg it ts elt) m S = .ok (.os ys) ⟨ρ, dr⟩ ∧ I xs.length ys := by
  obtain ⟨a, ρ', e, w, i⟩ := c_go (cond := scCond) (put := sPut) (step := lcStep Γ (own.map (·.2)) tg ts elt) (body := lcBody Γ tg ts elt) (lcStep_eq Γ (own.map (·.2)) tg ts elt) (ρ₀ := ρ) (dr := dr) (xs := xs) (acc := []) (ρ := wipeR ρ (own.map (·.2))) I (wipe_idem _ _) h0 hs
  refine ⟨a, ?_, i⟩
  have ee : ev Γ (.sc own tg it ts elt) m S = M.bind (evi Γ it) (fun xs => M.bind (blockM (own.map (·.2)) (cGo scCond sPut (lcStep Γ (own.map (·.2)) tg ts elt) xs [])) fun ys => M.ret (Val.os ys)) S := rfl
  rw [ee, bind_ok hi, bind_ok (blk_ok hf e w)]
  rfl
theorem ev_dcI {Γ : Env} {own : List (Str × Nat)} {tg : Tg} {it : Itr} {ts : Tsts} {k v : E} {m : Bool} {S : Sta} {ρ : List (Option Val)} {dr : Option Draw} {xs : List PyData} (I : Nat → List (PyData × PyData) → Prop) (hi : evi Γ it S = .ok xs ⟨ρ, dr⟩) (hf : freeSlots (own.map (·.2)) ρ = true) (h0 : I 0 [])
    (hs : ∀ i x acc, xs[i]? = some x → I i acc → ∃ o ρ', wipeR ρ' (own.map (·.2)) = wipeR ρ (own.map (·.2)) ∧ dcBody Γ tg ts k v x ⟨wipeR ρ (own.map (·.2)), dr⟩ = .ok o ⟨ρ', dr⟩ ∧ nextI dcCond dcPut I (i + 1) acc o) :
    ∃ ys, ev Γ (.dc own tg it ts k v) m S = .ok (.od ys) ⟨ρ, dr⟩ ∧ I xs.length ys := by
  have hst : ∀ x s, (M.bind (wipeM (own.map (·.2))) fun _ => M.bind (asgT tg (.d x)) fun _ => M.bind (evts Γ ts) fun b => if b = true then M.bind (ev Γ k true) (fun a => M.bind (M.of (Mini.getD a)) fun a => M.bind (ev Γ v true) fun b => M.bind (M.of (Mini.getD b)) fun b => M.ret (some (a, b))) else M.ret none) s = dcBody Γ tg ts k v x ⟨wipeR s.ρ (own.map (·.2)), s.dr⟩ := fun x s => by
    show M.bind (asgT tg (.d x)) (fun _ => M.bind (evts Γ ts) fun b => if b = true then M.bind (ev Γ k true) (fun a => M.bind (M.of (Mini.getD a)) fun a => M.bind (ev Γ v true) fun b => M.bind (M.of (Mini.getD b)) fun b => M.ret (some (a, b))) else M.ret none) ⟨wipeR s.ρ (own.map fun x => x.2), s.dr⟩ = _
    rw [M_eq]; unfold dcBody; congr 1; funext _ s; rw [M_eq]; unfold brO; congr 1; funext b s
    cases b with
    | false => rfl
    | true =>
      show M.bind (ev Γ k true) (fun a => M.bind (M.of (Mini.getD a)) fun a => M.bind (ev Γ v true) fun b => M.bind (M.of (Mini.getD b)) fun b => M.ret (some (a, b))) s = (ev Γ k true s).bnd fun a s => (ofO (Mini.getD a) s).bnd fun a s => (ev Γ v true s).bnd fun b s => (ofO (Mini.getD b) s).bnd fun b s => .ok (some (a, b)) s
      rw [M_eq]; congr 1
  obtain ⟨a, ρ', e, w, i⟩ := c_go (cond := dcCond) (put := dcPut) (body := dcBody Γ tg ts k v) hst (ρ₀ := ρ) (dr := dr) (xs := xs) (acc := []) (ρ := wipeR ρ (own.map (·.2))) I (wipe_idem _ _) h0 hs
  refine ⟨a, ?_, i⟩
  have ee : ev Γ (.dc own tg it ts k v) m S = M.bind (evi Γ it) (fun xs => M.bind (blockM (own.map (·.2)) (cGo dcCond dcPut (fun x => M.bind (wipeM (own.map (·.2))) fun _ => M.bind (asgT tg (.d x)) fun _ => M.bind (evts Γ ts) fun b => if b = true then M.bind (ev Γ k true) (fun a => M.bind (M.of (Mini.getD a)) fun a => M.bind (ev Γ v true) fun b => M.bind (M.of (Mini.getD b)) fun b => M.ret (some (a, b))) else M.ret none) xs [])) fun ys => M.ret (Val.od ys)) S := rfl
  rw [ee, bind_ok hi, bind_ok (blk_ok hf e w)]
  rfl
end Mini

set_option Elab.async false
set_option linter.all false
set_option maxRecDepth 100000
set_option maxHeartbeats 4000000
namespace Mini
open PySem
/-! ### small facts for runs -/
theorem setO_k (i : Nat) (v : Val) (ρ : List (Option Val)) (dr : Option Draw) : setO i v ⟨ρ, dr⟩ = match decide (i < ρ.length) with | true => .ok () ⟨ρ.set i (some v), dr⟩ | false => .no := rfl
theorem frz_d (x : PyData) : (Val.d x).frz = some (.d x) := rfl
theorem frz_ol (x : List PyData) : (Val.ol x).frz = some (.d (.list x)) := rfl
theorem frz_drw : Val.drw.frz = some .drw := rfl
theorem frz_scr (x : List Int) : (Val.scr x).frz = some (.scr x) := rfl
theorem getD_d (x : PyData) : Mini.getD (.d x) = some x := rfl
theorem getD_ol (x : List PyData) : Mini.getD (.ol x) = some (.list x) := rfl
theorem c_lt {i j : Int} : cmpV .lt (.d (.int i)) (.d (.int j)) = some (decide (i < j)) := by
  show (if ordOk (.int i) (.int j) then some (W.dataLt (.int i) (.int j)) else none) = _
  rw [if_pos (show ordOk (.int i) (.int j) = true from rfl), lt_int]
theorem c_gt {i j : Int} : cmpV .gt (.d (.int i)) (.d (.int j)) = some (decide (j < i)) := by
  show (if ordOk (.int i) (.int j) then some (W.dataLt (.int j) (.int i)) else none) = _
  rw [if_pos (show ordOk (.int i) (.int j) = true from rfl), lt_int]
theorem not_lt_d {i j : Int} : (!decide (i < j)) = decide (j ≤ i) := by
  by_cases h : i < j
  · rw [decide_eq_true h, decide_eq_false (by omega)]; rfl
  · rw [decide_eq_false h, decide_eq_true (by omega)]; rfl
theorem c_le {i j : Int} : cmpV .le (.d (.int i)) (.d (.int j)) = some (decide (i ≤ j)) := by
  show (if ordOk (.int i) (.int j) then some (!W.dataLt (.int j) (.int i)) else none) = _
  rw [if_pos (show ordOk (.int i) (.int j) = true from rfl), lt_int, not_lt_d]
theorem c_ge {i j : Int} : cmpV .ge (.d (.int i)) (.d (.int j)) = some (decide (j ≤ i)) := by
  show (if ordOk (.int i) (.int j) then some (!W.dataLt (.int i) (.int j)) else none) = _
  rw [if_pos (show ordOk (.int i) (.int j) = true from rfl), lt_int, not_lt_d]
theorem c_eq {i j : Int} : cmpV .eq (.d (.int i)) (.d (.int j)) = some (i == j) := rfl
theorem c_ne {i j : Int} : cmpV .ne (.d (.int i)) (.d (.int j)) = some (!(i == j)) := rfl
theorem b_add {i j : Int} : binV .add (.d (.int i)) (.d (.int j)) = some (.d (.int (i + j))) := rfl
theorem b_sub {i j : Int} : binV .sub (.d (.int i)) (.d (.int j)) = some (.d (.int (i - j))) := rfl
theorem glob_of {T : Txt} {n : Nat} {x : Str} : (T.env n).glob x = T.glob x := rfl
theorem has_of {T : Txt} {n : Nat} {x : Str} : (T.env n).has x = T.has x := rfl
theorem fns_of {T : Txt} {n : Nat} : (T.env n).fns = callN T n := rfl
theorem exc_of {T : Txt} {n : Nat} : (T.env n).exc = T.exc := rfl
end Mini

set_option maxRecDepth 100000
namespace K07
open PySem Mini
def f_is_whole_b : Ss :=
  (.cons (.ret (.andV (.cons (.isi (.var 0 "thing") .int) (.cons (.not (.isi (.var 0 "thing") .bool)) (.cons (.cmp2 .le .le (.var 1 "least") (.var 0 "thing") (.var 2 "most")) .nil)))))
  .nil)
def f_is_whole : Fd := ⟨["thing", "least", "most"], ["thing", "least", "most"], f_is_whole_b⟩
def f_is_rule_b : Ss :=
  (.cons (.ite (.or (.cons (.not (.e (.isi (.var 0 "thing") .tuple))) (.cons (.e (.cmp .ne (.bi .len (.cons (.var 0 "thing") .nil)) (.int 3))) (.cons (.not (.e (.isi (.ix (.var 0 "thing") (.int 1)) .str))) (.cons (.e (.cmp .ne (.bi .len (.cons (.ix (.var 0 "thing") (.int 1)) .nil)) (.int 1))) .nil))))) (.cons (.ret (.bl false))
    .nil) .nil)
  (.cons (.ite (.e (.cmp .notIn (.ix (.var 0 "thing") (.int 1)) (.glob "SIGNS"))) (.cons (.ret (.bl false))
    .nil) .nil)
  (.cons (.ret (.andV (.cons (.call "is_whole" (.cons (.ix (.var 0 "thing") (.int 0)) (.cons (.int 0) (.cons (.bin .sub (.glob "MOST_STATES") (.int 1)) .nil)))) (.cons (.call "is_whole" (.cons (.ix (.var 0 "thing") (.int 2)) (.cons (.int 0) (.cons (.bin .sub (.glob "MOST_STATES") (.int 1)) .nil)))) .nil))))
  .nil)))
def f_is_rule : Fd := ⟨["thing"], ["thing"], f_is_rule_b⟩
def f_need_reader_for1 : Ss :=
  (.cons (.ite (.or (.cons (.not (.e (.call "is_rule" (.cons (.var 4 "rule") .nil)))) (.cons (.and (.cons (.e (.cmp .gt (.var 3 "number") (.int 0))) (.cons (.not (.e (.cmp .lt (.sl (.ix (.var 1 "rules") (.bin .sub (.var 3 "number") (.int 1))) .none (.some (.int 2))) (.sl (.var 4 "rule") .none (.some (.int 2)))))) .nil))) .nil))) (.cons (.raise "BadReader" (.cons (.str "rules") (.cons (.var 3 "number") .nil)))
    .nil) .nil)
  .nil)
def f_need_reader_for2 : Ss :=
  (.cons (.ite (.or (.cons (.not (.e (.call "is_whole" (.cons (.var 5 "state") (.cons (.int 0) (.cons (.bin .sub (.glob "MOST_STATES") (.int 1)) .nil)))))) (.cons (.and (.cons (.e (.cmp .gt (.var 3 "number") (.int 0))) (.cons (.not (.e (.cmp .lt (.ix (.var 2 "good") (.bin .sub (.var 3 "number") (.int 1))) (.var 5 "state")))) .nil))) .nil))) (.cons (.raise "BadReader" (.cons (.str "good") (.cons (.var 3 "number") .nil)))
    .nil) .nil)
  .nil)
def f_need_reader_b : Ss :=
  (.cons (.ite (.or (.cons (.not (.e (.isi (.var 0 "thing") .tuple))) (.cons (.e (.cmp .ne (.bi .len (.cons (.var 0 "thing") .nil)) (.int 2))) .nil))) (.cons (.raise "BadReader" (.cons (.str "form") (.cons .non .nil)))
    .nil) .nil)
  (.cons (.asg (.tp2 (.nm 1 "rules") (.nm 2 "good")) (.var 0 "thing"))
  (.cons (.ite (.or (.cons (.not (.e (.isi (.var 1 "rules") .tuple))) (.cons (.not (.e (.isi (.var 2 "good") .tuple))) .nil))) (.cons (.raise "BadReader" (.cons (.str "form") (.cons .non .nil)))
    .nil) .nil)
  (.cons (.for_ (.tp2 (.nm 3 "number") (.nm 4 "rule")) (.enm (.var 1 "rules")) f_need_reader_for1)
  (.cons (.for_ (.tp2 (.nm 3 "number") (.nm 5 "state")) (.enm (.var 2 "good")) f_need_reader_for2)
  (.cons (.retV 0 "thing")
  .nil))))))
def f_need_reader : Fd := ⟨["thing"], ["thing", "rules", "good", "number", "rule", "state"], f_need_reader_b⟩
def f_table_of_b : Ss :=
  (.cons (.ret (.dc [("state", 1), ("sign", 2), ("to", 3)] (.tp3 (.nm 1 "state") (.nm 2 "sign") (.nm 3 "to")) (.pl (.ix (.var 0 "reader") (.int 0))) .nil (.tup (.cons (.var 1 "state") (.cons (.var 2 "sign") .nil))) (.var 3 "to")))
  .nil)
def f_table_of : Fd := ⟨["reader"], ["reader", "state", "sign", "to"], f_table_of_b⟩
def f_led_for1 : Ss :=
  (.cons (.asg (.nm 1 "state") (.me .get (.var 0 "table") (.cons (.tup (.cons (.var 1 "state") (.cons (.var 3 "sign") .nil))) .nil)))
  (.cons (.ite (.e (.cmp .is (.var 1 "state") .non)) (.cons (.ret .non)
    .nil) .nil)
  .nil))
def f_led_b : Ss :=
  (.cons (.for_ (.nm 3 "sign") (.pl (.var 2 "signs")) f_led_for1)
  (.cons (.retV 1 "state")
  .nil))
def f_led : Fd := ⟨["table", "state", "signs"], ["table", "state", "signs", "sign"], f_led_b⟩
def f_takes_b : Ss :=
  (.cons (.ex (.call "need_reader" (.cons (.var 0 "reader") .nil)))
  (.cons (.ite (.or (.cons (.not (.e (.isi (.var 1 "text") .str))) (.cons (.e (.cmp .eq (.var 1 "text") (.str ""))) (.cons (.e (.cmp .ne (.ix (.var 1 "text") (.neg (.int 1))) (.glob "END"))) .nil)))) (.cons (.raise "OutOfPlace" (.cons (.str "no text of a line") .nil))
    .nil) .nil)
  (.cons (.ite (.not (.e (.bi .all (.cons (.lc [("sign", 2)] (.nm 2 "sign") (.pl (.sl (.var 1 "text") .none (.some (.neg (.int 1))))) .nil (.cmp .isIn (.var 2 "sign") (.bin .add (.glob "SIGNS") (.glob "MARKS")))) .nil)))) (.cons (.raise "OutOfPlace" (.cons (.str "no text of a line") .nil))
    .nil) .nil)
  (.cons (.asg (.nm 3 "marks") (.sc [("sign", 2)] (.nm 2 "sign") (.pl (.var 1 "text")) (.cons (.e (.cmp .isIn (.var 2 "sign") (.bin .add (.glob "MARKS") (.glob "MARK")))) .nil) (.var 2 "sign")))
  (.cons (.ite (.e (.cmp .gt (.bi .len (.cons (.var 3 "marks") .nil)) (.int 1))) (.cons (.ret (.bl false))
    .nil) .nil)
  (.cons (.asg (.nm 4 "plain") (.me .join (.str "") (.cons (.lc [("sign", 2)] (.nm 2 "sign") (.pl (.sl (.var 1 "text") .none (.some (.neg (.int 1))))) .nil (.ite (.e (.cmp .isIn (.var 2 "sign") (.glob "MARKS"))) (.glob "MARK") (.var 2 "sign"))) .nil)))
  (.cons (.ret (.cmp .isIn (.call "led" (.cons (.call "table_of" (.cons (.var 0 "reader") .nil)) (.cons (.int 0) (.cons (.var 4 "plain") .nil)))) (.ix (.var 0 "reader") (.int 1))))
  .nil)))))))
def f_takes : Fd := ⟨["reader", "text"], ["reader", "text", "sign", "marks", "plain"], f_takes_b⟩
def f_law_table_b : Ss :=
  (.cons (.ret (.bi .dict (.cons (.lc [("state", 1), ("sign", 2), ("to", 3)] (.tp3 (.nm 1 "state") (.nm 2 "sign") (.nm 3 "to")) (.pl (.ix (.var 0 "reader") (.int 0))) .nil (.tup (.cons (.tup (.cons (.var 1 "state") (.cons (.var 2 "sign") .nil))) (.cons (.var 3 "to") .nil)))) .nil)))
  .nil)
def f_law_table : Fd := ⟨["reader"], ["reader", "state", "sign", "to"], f_law_table_b⟩
def f_law_led_for1 : Ss :=
  (.cons (.ite (.e (.cmp .isnot (.var 1 "state") .non)) (.cons (.asg (.nm 1 "state") (.me .get (.var 0 "table") (.cons (.tup (.cons (.var 1 "state") (.cons (.var 3 "sign") .nil))) .nil)))
    .nil) .nil)
  .nil)
def f_law_led_b : Ss :=
  (.cons (.for_ (.nm 3 "sign") (.pl (.var 2 "signs")) f_law_led_for1)
  (.cons (.retV 1 "state")
  .nil))
def f_law_led : Fd := ⟨["table", "state", "signs"], ["table", "state", "signs", "sign"], f_law_led_b⟩
def f_law_some_reader_for2 : Ss :=
  (.cons (.ite (.e (.cmp .gt (.call "_law_next" (.cons (.var 0 "m") (.cons (.int 4) .nil))) (.int 0))) (.cons (.app 2 "rules" (.tup (.cons (.var 3 "state") (.cons (.var 4 "sign") (.cons (.call "_law_next" (.cons (.var 0 "m") (.cons (.var 1 "many") .nil))) .nil)))))
    .nil) .nil)
  .nil)
def f_law_some_reader_for1 : Ss :=
  (.cons (.for_ (.nm 4 "sign") (.pl (.str "@ab")) f_law_some_reader_for2)
  .nil)
def f_law_some_reader_b : Ss :=
  (.cons (.asg (.nm 2 "rules") (.lst .nil))
  (.cons (.for_ (.nm 3 "state") (.rng1 (.var 1 "many")) f_law_some_reader_for1)
  (.cons (.ret (.tup (.cons (.bi .tuple (.cons (.var 2 "rules") .nil)) (.cons (.bi .tuple (.cons (.lc [("state", 3)] (.nm 3 "state") (.rng1 (.var 1 "many")) (.cons (.e (.cmp .eq (.call "_law_next" (.cons (.var 0 "m") (.cons (.int 3) .nil))) (.int 0))) .nil) (.var 3 "state")) .nil)) .nil))))
  .nil)))
def f_law_some_reader : Fd := ⟨["m", "many"], ["m", "many", "rules", "state", "sign"], f_law_some_reader_b⟩
def f_law_is_taken_b : Ss :=
  (.cons (.asg (.nm 3 "marks") (.bi .sorted (.cons (.bi .set (.cons (.lc [("sign", 2)] (.nm 2 "sign") (.pl (.var 1 "text")) (.cons (.e (.cmp .isIn (.var 2 "sign") (.str "@ABCDEFGH"))) .nil) (.var 2 "sign")) .nil)) .nil)))
  (.cons (.asg (.nm 4 "signs") (.me .join (.str "") (.cons (.lc [("sign", 2)] (.nm 2 "sign") (.pl (.sl (.var 1 "text") .none (.some (.neg (.int 1))))) .nil (.ite (.e (.cmp .isIn (.var 2 "sign") (.str "ABCDEFGH"))) (.str "@") (.var 2 "sign"))) .nil)))
  (.cons (.asg (.nm 5 "state") (.call "_law_led" (.cons (.call "_law_table" (.cons (.var 0 "reader") .nil)) (.cons (.int 0) (.cons (.var 4 "signs") .nil)))))
  (.cons (.ret (.andV (.cons (.cmp .lt (.bi .len (.cons (.var 3 "marks") .nil)) (.int 2)) (.cons (.cmp .isnot (.var 5 "state") .non) (.cons (.cmp .isIn (.var 5 "state") (.ix (.var 0 "reader") (.int 1))) .nil)))))
  .nil))))
def f_law_is_taken : Fd := ⟨["reader", "text"], ["reader", "text", "sign", "marks", "signs", "state"], f_law_is_taken_b⟩
def f_law_is_refused_b : Ss :=
  (.cons (.asg (.nm 2 "found") (.bl false))
  (.cons (.tr (.cons (.ex (.call "takes" (.cons (.var 0 "reader") (.cons (.var 1 "text") .nil))))
    .nil) ⟨["OutOfPlace"], none, 2, "found", (.cst (.bool true))⟩)
  (.cons (.retV 2 "found")
  .nil)))
def f_law_is_refused : Fd := ⟨["reader", "text"], ["reader", "text", "found"], f_law_is_refused_b⟩
def f_law_for2 : Ss :=
  (.cons (.asg (.nm 5 "marks") (.ix (.lst (.cons (.str "@") (.cons (.str "A") (.cons (.str "H") (.cons (.str "AB") (.cons (.str "@A") .nil)))))) (.call "_law_next" (.cons (.var 1 "m") (.cons (.int 5) .nil)))))
  (.cons (.asg (.nm 7 "text") (.bin .add (.me .join (.str "") (.cons (.lc [("j", 6)] (.nm 6 "j") (.rng1 (.call "_law_next" (.cons (.var 1 "m") (.cons (.int 9) .nil)))) .nil (.ix (.bin .add (.str "ab") (.var 5 "marks")) (.call "_law_next" (.cons (.var 1 "m") (.cons (.bin .add (.int 2) (.bi .len (.cons (.var 5 "marks") .nil))) .nil))))) .nil)) (.str ";")))
  (.cons (.ite (.e (.cmp .ne (.bi .repr (.cons (.call "takes" (.cons (.var 3 "reader") (.cons (.var 7 "text") .nil))) .nil)) (.bi .repr (.cons (.call "_law_is_taken" (.cons (.var 3 "reader") (.cons (.var 7 "text") .nil))) .nil)))) (.cons (.ret (.bl false))
    .nil) .nil)
  .nil)))
def f_law_for3 : Ss :=
  (.cons (.ite (.not (.e (.call "_law_is_refused" (.cons (.var 3 "reader") (.cons (.var 8 "odd") .nil))))) (.cons (.ret (.bl false))
    .nil) .nil)
  .nil)
def f_law_for1 : Ss :=
  (.cons (.asg (.nm 3 "reader") (.call "_law_some_reader" (.cons (.var 1 "m") (.cons (.bin .add (.int 1) (.call "_law_next" (.cons (.var 1 "m") (.cons (.int 6) .nil)))) .nil))))
  (.cons (.for_ (.nm 4 "k") (.rng1 (.int 12)) f_law_for2)
  (.cons (.for_ (.nm 8 "odd") (.pl (.lst (.cons .non (.cons (.int 5) (.cons (.str "") (.cons (.str "a") (.cons (.str "a;b;") (.cons (.str ";;") (.cons (.str "I;") (.cons (.str "a b;") (.cons (.str "-;") (.cons (.tup (.cons (.str "a;") .nil)) (.cons (.lst (.cons (.str "a;") .nil)) (.cons (.dic .nil .nil) (.cons (.str "a;\n") .nil))))))))))))))) f_law_for3)
  .nil)))
def f_law_b : Ss :=
  (.cons (.asg (.nm 1 "m") (.call "_law_begun" (.cons (.var 0 "script") .nil)))
  (.cons (.for_ (.nm 2 "turn") (.rng1 (.bin .add (.int 2) (.bi .min (.cons (.bi .len (.cons (.var 0 "script") .nil)) (.cons (.int 4) .nil))))) f_law_for1)
  (.cons (.asg (.nm 3 "reader") (.tup (.cons (.tup (.cons (.tup (.cons (.int 0) (.cons (.str "@") (.cons (.int 1) .nil)))) (.cons (.tup (.cons (.int 1) (.cons (.str "@") (.cons (.int 1) .nil)))) .nil))) (.cons (.tup (.cons (.int 0) (.cons (.int 1) .nil))) .nil))))
  (.cons (.asg (.nm 9 "found") (.lc [("text", 7)] (.nm 7 "text") (.pl (.lst (.cons (.str ";") (.cons (.str "@;") (.cons (.str "A;") (.cons (.str "AA;") (.cons (.str "AB;") (.cons (.str "@A;") (.cons (.str "H@;") (.cons (.str "@@;") (.cons (.str "aA;") .nil))))))))))) .nil (.call "takes" (.cons (.var 3 "reader") (.cons (.var 7 "text") .nil)))))
  (.cons (.ret (.cmp .eq (.var 9 "found") (.lst (.cons (.bl true) (.cons (.bl true) (.cons (.bl true) (.cons (.bl true) (.cons (.bl false) (.cons (.bl false) (.cons (.bl false) (.cons (.bl true) (.cons (.bl false) .nil))))))))))))
  .nil)))))
def f_law : Fd := ⟨["script"], ["script", "m", "turn", "reader", "k", "marks", "j", "text", "odd", "found"], f_law_b⟩
def tx : Tx := ⟨[("is_whole", f_is_whole), ("is_rule", f_is_rule), ("need_reader", f_need_reader), ("table_of", f_table_of), ("led", f_led), ("takes", f_takes), ("_law_table", f_law_table), ("_law_led", f_law_led), ("_law_some_reader", f_law_some_reader), ("_law_is_taken", f_law_is_taken), ("_law_is_refused", f_law_is_refused), ("law", f_law)], "many", [("MARK", (.str "@")), ("END", (.str ";")), ("MARKS", (.str "ABCDEFGH")), ("MOST_STATES", (.int 200)), ("SIGNS", (.str "0123456789@abcdefghijklmnopqrstuvwxyz"))], [("BadReader", (["part", "number"], [("part", "part"), ("number", "number")])), ("OutOfPlace", (["text"], []))]⟩
end K07

set_option Elab.async false
set_option linter.all false
set_option maxRecDepth 100000
set_option maxHeartbeats 0
namespace K07
open PySem Mini
abbrev Lw : PySem.W.OpenLaw := PySem.Challenge.rw_tornlines_k07_whole_texts_taken
abbrev R : PySem.W.OpenRow := PySem.W.OpenLaw.row Lw
abbrev hk : PySem.W.Hook := hookM Lw.prog tx 6
abbrev ob : PySem.W.SharedT → Bool := obM Lw.prog tx 6
def loose : List Str := ["__name__", "BadReader", "OutOfPlace", "MARK", "END", "is_whole", "MARKS", "MOST_STATES", "SIGNS", "is_rule", "need_reader", "table_of", "led", "takes", "_law_begun", "_law_next", "_law_table", "_law_led", "_law_some_reader", "_law_is_taken", "_law_is_refused"]
theorem run (w : World) : HandSHeadRun.RunEq R (PySem.W.view R.prog [24]) hk ob 4000 loose w := by
  intro os
  kernel_rfl
end K07

set_option Elab.async false
set_option linter.all false
set_option maxRecDepth 100000
set_option maxHeartbeats 4000000
namespace K07
open PySem Mini
theorem is_whole_int (n : Nat) (i lo hi : Int) (dr : Option Draw) : callN tx.txt (n + 1) "is_whole" [.d (.int i), .d (.int lo), .d (.int hi)] dr = .ok (.d (.bool (decide (lo ≤ i) && decide (i ≤ hi)))) dr := by
  rw [call_fd (fd := f_is_whole) rfl rfl rfl]
  show finO (execs _ f_is_whole_b ⟨[some (.d (.int i)), some (.d (.int lo)), some (.d (.int hi))], dr⟩) = _
  have e1 : isiV .int (.d (.int i)) = some true := rfl
  have e2 : isiV .bool (.d (.int i)) = some false := rfl
  simp only [xs_cons, xs_nil, x_asg, x_ex, x_ret, x_retV, x_ret0, x_ite, x_tr, r_var, r_use, r_int, r_str, r_bl, r_non, r_glob, r_tup, r_lst, r_bin, r_neg, r_not, r_cmp, r_cmp2, r_and1, r_and2, r_and, r_or1, r_or2, r_or, r_ite, r_ix, r_o0, r_oi, r_on, r_sl, r_bi, r_b0, r_b1, r_s0, r_s1, r_isi, r_te, r_tand, r_tor, r_tnot, r_ta0, r_ta1, r_to0, r_to1, bnd_ok, bnd_er, br_t, br_f, ofO_some, slotO_ok, useO_d, useO_drw, useO_scr, useO_ol, useO_od, boolO_ok, callO_ok, callO_er, a_nm, a_tp1, a_tp2, a_tp3, a_tp4, flw_nx, flw_rt, flw_bk, flw_ct, fin_rt, fin_nx, fin_er, tr_ok, tr_er, List.getElem?_cons_zero, List.getElem?_cons_succ, List.set_cons_zero, List.set_cons_succ, List.length_cons, List.length_nil, Option.map_some, Bool.not_true, Bool.not_false, setO_k, frz_d, frz_ol, frz_drw, frz_scr, getD_d, getD_ol, f_is_whole_b, e1, e2, c_le]
  by_cases h : lo ≤ i
  · simp only [xs_cons, xs_nil, x_asg, x_ex, x_ret, x_retV, x_ret0, x_ite, x_tr, r_var, r_use, r_int, r_str, r_bl, r_non, r_glob, r_tup, r_lst, r_bin, r_neg, r_not, r_cmp, r_cmp2, r_and1, r_and2, r_and, r_or1, r_or2, r_or, r_ite, r_ix, r_o0, r_oi, r_on, r_sl, r_bi, r_b0, r_b1, r_s0, r_s1, r_isi, r_te, r_tand, r_tor, r_tnot, r_ta0, r_ta1, r_to0, r_to1, bnd_ok, bnd_er, br_t, br_f, ofO_some, slotO_ok, useO_d, useO_drw, useO_scr, useO_ol, useO_od, boolO_ok, callO_ok, callO_er, a_nm, a_tp1, a_tp2, a_tp3, a_tp4, flw_nx, flw_rt, flw_bk, flw_ct, fin_rt, fin_nx, fin_er, tr_ok, tr_er, List.getElem?_cons_zero, List.getElem?_cons_succ, List.set_cons_zero, List.set_cons_succ, List.length_cons, List.length_nil, Option.map_some, Bool.not_true, Bool.not_false, setO_k, frz_d, frz_ol, frz_drw, frz_scr, getD_d, getD_ol, decide_eq_true h, Bool.true_and, c_le]
  · simp only [xs_cons, xs_nil, x_asg, x_ex, x_ret, x_retV, x_ret0, x_ite, x_tr, r_var, r_use, r_int, r_str, r_bl, r_non, r_glob, r_tup, r_lst, r_bin, r_neg, r_not, r_cmp, r_cmp2, r_and1, r_and2, r_and, r_or1, r_or2, r_or, r_ite, r_ix, r_o0, r_oi, r_on, r_sl, r_bi, r_b0, r_b1, r_s0, r_s1, r_isi, r_te, r_tand, r_tor, r_tnot, r_ta0, r_ta1, r_to0, r_to1, bnd_ok, bnd_er, br_t, br_f, ofO_some, slotO_ok, useO_d, useO_drw, useO_scr, useO_ol, useO_od, boolO_ok, callO_ok, callO_er, a_nm, a_tp1, a_tp2, a_tp3, a_tp4, flw_nx, flw_rt, flw_bk, flw_ct, fin_rt, fin_nx, fin_er, tr_ok, tr_er, List.getElem?_cons_zero, List.getElem?_cons_succ, List.set_cons_zero, List.set_cons_succ, List.length_cons, List.length_nil, Option.map_some, Bool.not_true, Bool.not_false, setO_k, frz_d, frz_ol, frz_drw, frz_scr, getD_d, getD_ol, decide_eq_false h, Bool.false_and]
/-- a rule -/
def rule (s : Int) (c : Str) (t : Int) : PyData := .tuple [.int s, .str c, .int t]
theorem g_signs : tx.txt.glob "SIGNS" = some (.str "0123456789@abcdefghijklmnopqrstuvwxyz") := rfl
theorem g_most : tx.txt.glob "MOST_STATES" = some (.int 200) := rfl
theorem g_marks : tx.txt.glob "MARKS" = some (.str "ABCDEFGH") := rfl
theorem g_mark : tx.txt.glob "MARK" = some (.str "@") := rfl
theorem g_end : tx.txt.glob "END" = some (.str ";") := rfl
theorem h_whole (n : Nat) : (tx.txt.env n).has "is_whole" = true := rfl
theorem is_rule_ok (n : Nat) (s t : Int) (c : Str) (dr : Option Draw) (hs : 0 ≤ s ∧ s ≤ 200 - 1) (ht : 0 ≤ t ∧ t ≤ 200 - 1) (hc : c = "@" ∨ c = "a" ∨ c = "b") : callN tx.txt (n + 2) "is_rule" [.d (rule s c t)] dr = .ok (.d (.bool true)) dr := by
  rw [call_fd (fd := f_is_rule) rfl rfl rfl]
  show finO (execs _ f_is_rule_b ⟨[some (.d (rule s c t))], dr⟩) = _
  have e1 : isiV .tuple (.d (rule s c t)) = some true := rfl
  have e2 : biV .len [.d (rule s c t)] = some (.d (.int 3)) := rfl
  have i0 : ixD (.d (rule s c t)) (.int 0) = some (.int s) := rfl
  have i1 : ixD (.d (rule s c t)) (.int 1) = some (.str c) := rfl
  have i2 : ixD (.d (rule s c t)) (.int 2) = some (.int t) := rfl
  have n1 : ((3 : Int) == 3) = true := rfl
  have n2 : ((1 : Int) == 1) = true := rfl
  have e4 : isiV .str (.d (.str c)) = some true := rfl
  have e5 : biV .len [.d (.str c)] = some (.d (.int 1)) := by rcases hc with rfl | rfl | rfl <;> rfl
  have e6 : cmpV .notIn (.d (.str c)) (.d (.str "0123456789@abcdefghijklmnopqrstuvwxyz")) = some false := by rcases hc with rfl | rfl | rfl <;> decide +kernel
  have d0 : ∀ x : PyData, (Val.d x).dat = some x := fun _ => rfl
  simp only [xs_cons, xs_nil, x_asg, x_ex, x_ret, x_retV, x_ret0, x_ite, x_tr, r_var, r_use, r_int, r_str, r_bl, r_non, r_glob, r_tup, r_lst, r_bin, r_neg, r_not, r_cmp, r_cmp2, r_and1, r_and2, r_and, r_or1, r_or2, r_or, r_ite, r_ix, r_o0, r_oi, r_on, r_sl, r_bi, r_b0, r_b1, r_s0, r_s1, r_isi, r_te, r_tand, r_tor, r_tnot, r_ta0, r_ta1, r_to0, r_to1, bnd_ok, bnd_er, br_t, br_f, ofO_some, slotO_ok, useO_d, useO_drw, useO_scr, useO_ol, useO_od, boolO_ok, callO_ok, callO_er, a_nm, a_tp1, a_tp2, a_tp3, a_tp4, flw_nx, flw_rt, flw_bk, flw_ct, fin_rt, fin_nx, fin_er, tr_ok, tr_er, List.getElem?_cons_zero, List.getElem?_cons_succ, List.set_cons_zero, List.set_cons_succ, List.length_cons, List.length_nil, Option.map_some, Bool.not_true, Bool.not_false, setO_k, frz_d, frz_ol, frz_drw, frz_scr, getD_d, getD_ol, f_is_rule_b, e1, e2, i0, i1, i2, n1, n2, e4, e5, e6, c_ne, d0, g_signs, g_most, b_sub, r_call _ _ _ _ _ (h_whole _), fns_of, is_whole_int, decide_eq_true hs.1, decide_eq_true ht.1, decide_eq_true hs.2, decide_eq_true ht.2, Bool.and_self]
def ruleOf (p : Int × Str × Int) : PyData := rule p.1 p.2.1 p.2.2
def rulesOf (rs : List (Int × Str × Int)) : PyData := .tuple (rs.map ruleOf)
def goodOf (gs : List Int) : PyData := .tuple (gs.map .int)
def readerOf (rs : List (Int × Str × Int)) (gs : List Int) : PyData := .tuple [rulesOf rs, goodOf gs]
structure RdOk (rs : List (Int × Str × Int)) (gs : List Int) : Prop where
  ru : ∀ p ∈ rs, (0 ≤ p.1 ∧ p.1 ≤ 200 - 1) ∧ (0 ≤ p.2.2 ∧ p.2.2 ≤ 200 - 1) ∧ (p.2.1 = "@" ∨ p.2.1 = "a" ∨ p.2.1 = "b")
  so : ∀ (i : Nat) (p q : Int × Str × Int), rs[i]? = some p → rs[i + 1]? = some q → W.dataLt (.tuple [.int p.1, .str p.2.1]) (.tuple [.int q.1, .str q.2.1]) = true
  go : ∀ g ∈ gs, 0 ≤ g ∧ g ≤ 200 - 1
  gi : ∀ (i : Nat) (a b : Int), gs[i]? = some a → gs[i + 1]? = some b → a < b
theorem enumL_get : ∀ (xs : List PyData) (n i : Nat) (x : PyData), (enumL n xs)[i]? = some x → ∃ y, xs[i]? = some y ∧ x = .tuple [.int ((n + i : Nat) : Int), y]
  | [], _, _, _, h => by simp [enumL] at h
  | y :: r, n, 0, x, h => by simp [enumL] at h; exact ⟨y, rfl, h.symm⟩
  | y :: r, n, i + 1, x, h => by
    obtain ⟨z, e1, e2⟩ := enumL_get r (n + 1) i x (by simpa [enumL] using h)
    exact ⟨z, by simpa using e1, by rw [e2, show n + 1 + i = n + (i + 1) by omega]⟩
theorem ix_tup {xs : List PyData} {k : Int} {i : Nat} {y : PyData} (hk : k = (i : Int)) (h : xs[i]? = some y) : ixD (.d (.tuple xs)) (.int k) = some y := by
  have hi : i < xs.length := by
    by_cases q : i < xs.length
    · exact q
    · rw [List.getElem?_eq_none (by omega)] at h; cases h
  subst hk
  show (ixOf xs.length (i : Int)).bind (fun j => xs[j]?) = _
  unfold ixOf
  rw [if_pos (by omega), if_pos (by omega)]
  simpa using h
theorem h_rule (n : Nat) : (tx.txt.env n).has "is_rule" = true := rfl
theorem d_dat (x : PyData) : (Val.d x).dat = some x := rfl
theorem rget {rs : List (Int × Str × Int)} {i : Nat} {y : PyData} (h : (rs.map ruleOf)[i]? = some y) : ∃ p, rs[i]? = some p ∧ y = ruleOf p := by
  rw [List.getElem?_map] at h
  obtain ⟨p, e1, e2⟩ := Option.map_eq_some_iff.mp h
  exact ⟨p, e1, e2.symm⟩
theorem gget {gs : List Int} {i : Nat} {y : PyData} (h : (gs.map PyData.int)[i]? = some y) : ∃ p, gs[i]? = some p ∧ y = .int p := by
  rw [List.getElem?_map] at h
  obtain ⟨p, e1, e2⟩ := Option.map_eq_some_iff.mp h
  exact ⟨p, e1, e2.symm⟩
theorem c_ltD {x y : PyData} {b : Bool} (h : ordOk x y = true) (hb : W.dataLt x y = b) : cmpV .lt (.d x) (.d y) = some b := by
  show (if ordOk x y then some (W.dataLt x y) else none) = _
  rw [h, hb]; rfl
theorem need_for1 (n : Nat) (rs : List (Int × Str × Int)) (gs : List Int) (ok : RdOk rs gs) (dr : Option Draw) (x0 x2 x3 x4 x5 : Option Val) : ∃ y3 y4, forGo (forStep (tx.txt.env (n + 2)) (.tp2 (.nm 3 "number") (.nm 4 "rule")) f_need_reader_for1) (enumL 0 (rs.map ruleOf)) ⟨[x0, some (.d (rulesOf rs)), x2, x3, x4, x5], dr⟩ = .ok .nx ⟨[x0, some (.d (rulesOf rs)), x2, y3, y4, x5], dr⟩ := by
  refine Exists.elim (for_nx (Γ := tx.txt.env (n + 2)) (tg := .tp2 (.nm 3 "number") (.nm 4 "rule")) (b := f_need_reader_for1) (xs := enumL 0 (rs.map ruleOf)) (S := ⟨[x0, some (.d (rulesOf rs)), x2, x3, x4, x5], dr⟩) (fun _ S => ∃ y3 y4, S = ⟨[x0, some (.d (rulesOf rs)), x2, y3, y4, x5], dr⟩) ⟨x3, x4, rfl⟩ ?_) fun S' ⟨e, y3, y4, h⟩ => ⟨y3, y4, h ▸ e⟩
  · rintro i x _ hx ⟨y3, y4, rfl⟩
    obtain ⟨y, ey, rfl⟩ := enumL_get _ _ _ _ hx
    obtain ⟨p, ep, rfl⟩ := rget ey
    obtain ⟨r1, r2, r3⟩ := ok.ru p (List.mem_of_getElem? ep)
    refine ⟨⟨[x0, some (.d (rulesOf rs)), x2, some (.d (.int ((0 + i : Nat) : Int))), some (.d (ruleOf p)), x5], dr⟩, ?_, _, _, rfl⟩
    have hr : ∀ dr, callN tx.txt (n + 2) "is_rule" [.d (ruleOf p)] dr = .ok (.d (.bool true)) dr := fun dr => is_rule_ok n _ _ _ dr r1 r2 r3
    unfold forStep
    simp only [xs_cons, xs_nil, x_asg, x_ex, x_ret, x_retV, x_ret0, x_ite, x_tr, r_var, r_use, r_int, r_str, r_bl, r_non, r_glob, r_tup, r_lst, r_bin, r_neg, r_not, r_cmp, r_cmp2, r_and1, r_and2, r_and, r_or1, r_or2, r_or, r_ite, r_ix, r_o0, r_oi, r_on, r_sl, r_bi, r_b0, r_b1, r_s0, r_s1, r_isi, r_te, r_tand, r_tor, r_tnot, r_ta0, r_ta1, r_to0, r_to1, bnd_ok, bnd_er, br_t, br_f, ofO_some, slotO_ok, useO_d, useO_drw, useO_scr, useO_ol, useO_od, boolO_ok, callO_ok, callO_er, a_nm, a_tp1, a_tp2, a_tp3, a_tp4, flw_nx, flw_rt, flw_bk, flw_ct, fin_rt, fin_nx, fin_er, tr_ok, tr_er, List.getElem?_cons_zero, List.getElem?_cons_succ, List.set_cons_zero, List.set_cons_succ, List.length_cons, List.length_nil, Option.map_some, Bool.not_true, Bool.not_false, setO_k, frz_d, frz_ol, frz_drw, frz_scr, getD_d, getD_ol, f_need_reader_for1, r_call _ _ _ _ _ (h_rule _), fns_of, hr, c_gt, b_sub, Nat.reduceAdd, Nat.reduceLT, decide_true, d_dat]
    cases i with
    | zero =>
      have z : decide ((0 : Int) < ((0 + 0 : Nat) : Int)) = false := rfl
      simp only [xs_cons, xs_nil, x_asg, x_ex, x_ret, x_retV, x_ret0, x_ite, x_tr, r_var, r_use, r_int, r_str, r_bl, r_non, r_glob, r_tup, r_lst, r_bin, r_neg, r_not, r_cmp, r_cmp2, r_and1, r_and2, r_and, r_or1, r_or2, r_or, r_ite, r_ix, r_o0, r_oi, r_on, r_sl, r_bi, r_b0, r_b1, r_s0, r_s1, r_isi, r_te, r_tand, r_tor, r_tnot, r_ta0, r_ta1, r_to0, r_to1, bnd_ok, bnd_er, br_t, br_f, ofO_some, slotO_ok, useO_d, useO_drw, useO_scr, useO_ol, useO_od, boolO_ok, callO_ok, callO_er, a_nm, a_tp1, a_tp2, a_tp3, a_tp4, flw_nx, flw_rt, flw_bk, flw_ct, fin_rt, fin_nx, fin_er, tr_ok, tr_er, List.getElem?_cons_zero, List.getElem?_cons_succ, List.set_cons_zero, List.set_cons_succ, List.length_cons, List.length_nil, Option.map_some, Bool.not_true, Bool.not_false, setO_k, frz_d, frz_ol, frz_drw, frz_scr, getD_d, getD_ol, z]
    | succ j =>
      have z : decide ((0 : Int) < ((0 + (j + 1) : Nat) : Int)) = true := decide_eq_true (by omega)
      obtain ⟨p', ep'⟩ : ∃ p', rs[j]? = some p' := by
        have : j + 1 < rs.length := by
          by_cases q : j + 1 < rs.length
          · exact q
          · rw [List.getElem?_eq_none (by omega)] at ep; cases ep
        exact ⟨_, List.getElem?_eq_getElem (by omega)⟩
      have ix : ixD (.d (rulesOf rs)) (.int (((0 + (j + 1) : Nat) : Int) - 1)) = some (ruleOf p') := ix_tup (i := j) (by omega) (by rw [List.getElem?_map, ep']; rfl)
      have s1 : ∀ p, slD (.d (ruleOf p)) none (some 2) = some (.d (.tuple [.int p.1, .str p.2.1])) := fun p => rfl
      have lt : cmpV .lt (.d (.tuple [.int p'.1, .str p'.2.1])) (.d (.tuple [.int p.1, .str p.2.1])) = some true := by
        exact c_ltD rfl (ok.so j p' p ep' ep)
      simp only [xs_cons, xs_nil, x_asg, x_ex, x_ret, x_retV, x_ret0, x_ite, x_tr, r_var, r_use, r_int, r_str, r_bl, r_non, r_glob, r_tup, r_lst, r_bin, r_neg, r_not, r_cmp, r_cmp2, r_and1, r_and2, r_and, r_or1, r_or2, r_or, r_ite, r_ix, r_o0, r_oi, r_on, r_sl, r_bi, r_b0, r_b1, r_s0, r_s1, r_isi, r_te, r_tand, r_tor, r_tnot, r_ta0, r_ta1, r_to0, r_to1, bnd_ok, bnd_er, br_t, br_f, ofO_some, slotO_ok, useO_d, useO_drw, useO_scr, useO_ol, useO_od, boolO_ok, callO_ok, callO_er, a_nm, a_tp1, a_tp2, a_tp3, a_tp4, flw_nx, flw_rt, flw_bk, flw_ct, fin_rt, fin_nx, fin_er, tr_ok, tr_er, List.getElem?_cons_zero, List.getElem?_cons_succ, List.set_cons_zero, List.set_cons_succ, List.length_cons, List.length_nil, Option.map_some, Bool.not_true, Bool.not_false, setO_k, frz_d, frz_ol, frz_drw, frz_scr, getD_d, getD_ol, z, ix, s1, lt, b_sub, d_dat]
theorem need_for2 (n : Nat) (rs : List (Int × Str × Int)) (gs : List Int) (ok : RdOk rs gs) (dr : Option Draw) (x0 x1 x3 x4 x5 : Option Val) : ∃ y3 y5, forGo (forStep (tx.txt.env (n + 2)) (.tp2 (.nm 3 "number") (.nm 5 "state")) f_need_reader_for2) (enumL 0 (gs.map .int)) ⟨[x0, x1, some (.d (goodOf gs)), x3, x4, x5], dr⟩ = .ok .nx ⟨[x0, x1, some (.d (goodOf gs)), y3, x4, y5], dr⟩ := by
  refine Exists.elim (for_nx (Γ := tx.txt.env (n + 2)) (tg := .tp2 (.nm 3 "number") (.nm 5 "state")) (b := f_need_reader_for2) (xs := enumL 0 (gs.map .int)) (S := ⟨[x0, x1, some (.d (goodOf gs)), x3, x4, x5], dr⟩) (fun _ S => ∃ y3 y5, S = ⟨[x0, x1, some (.d (goodOf gs)), y3, x4, y5], dr⟩) ⟨x3, x5, rfl⟩ ?_) fun S' ⟨e, y3, y5, h⟩ => ⟨y3, y5, h ▸ e⟩
  rintro i x _ hx ⟨y3, y5, rfl⟩
  obtain ⟨y, ey, rfl⟩ := enumL_get _ _ _ _ hx
  obtain ⟨p, ep, rfl⟩ := gget ey
  have r1 := ok.go p (List.mem_of_getElem? ep)
  refine ⟨⟨[x0, x1, some (.d (goodOf gs)), some (.d (.int ((0 + i : Nat) : Int))), x4, some (.d (.int p))], dr⟩, ?_, _, _, rfl⟩
  have hr : ∀ dr, callN tx.txt (n + 2) "is_whole" [.d (.int p), .d (.int 0), .d (.int (200 - 1))] dr = .ok (.d (.bool true)) dr := fun dr => by
    rw [is_whole_int, decide_eq_true r1.1, decide_eq_true r1.2]; rfl
  unfold forStep
  simp only [xs_cons, xs_nil, x_asg, x_ex, x_ret, x_retV, x_ret0, x_ite, x_tr, r_var, r_use, r_int, r_str, r_bl, r_non, r_glob, r_tup, r_lst, r_bin, r_neg, r_not, r_cmp, r_cmp2, r_and1, r_and2, r_and, r_or1, r_or2, r_or, r_ite, r_ix, r_o0, r_oi, r_on, r_sl, r_bi, r_b0, r_b1, r_s0, r_s1, r_isi, r_te, r_tand, r_tor, r_tnot, r_ta0, r_ta1, r_to0, r_to1, bnd_ok, bnd_er, br_t, br_f, ofO_some, slotO_ok, useO_d, useO_drw, useO_scr, useO_ol, useO_od, boolO_ok, callO_ok, callO_er, a_nm, a_tp1, a_tp2, a_tp3, a_tp4, flw_nx, flw_rt, flw_bk, flw_ct, fin_rt, fin_nx, fin_er, tr_ok, tr_er, List.getElem?_cons_zero, List.getElem?_cons_succ, List.set_cons_zero, List.set_cons_succ, List.length_cons, List.length_nil, Option.map_some, Bool.not_true, Bool.not_false, setO_k, frz_d, frz_ol, frz_drw, frz_scr, getD_d, getD_ol, f_need_reader_for2, r_call _ _ _ _ _ (h_whole _), fns_of, hr, c_gt, b_sub, g_most, Nat.reduceAdd, Nat.reduceLT, decide_true, d_dat]
  cases i with
  | zero =>
    have z : decide ((0 : Int) < ((0 + 0 : Nat) : Int)) = false := rfl
    simp only [xs_cons, xs_nil, x_asg, x_ex, x_ret, x_retV, x_ret0, x_ite, x_tr, r_var, r_use, r_int, r_str, r_bl, r_non, r_glob, r_tup, r_lst, r_bin, r_neg, r_not, r_cmp, r_cmp2, r_and1, r_and2, r_and, r_or1, r_or2, r_or, r_ite, r_ix, r_o0, r_oi, r_on, r_sl, r_bi, r_b0, r_b1, r_s0, r_s1, r_isi, r_te, r_tand, r_tor, r_tnot, r_ta0, r_ta1, r_to0, r_to1, bnd_ok, bnd_er, br_t, br_f, ofO_some, slotO_ok, useO_d, useO_drw, useO_scr, useO_ol, useO_od, boolO_ok, callO_ok, callO_er, a_nm, a_tp1, a_tp2, a_tp3, a_tp4, flw_nx, flw_rt, flw_bk, flw_ct, fin_rt, fin_nx, fin_er, tr_ok, tr_er, List.getElem?_cons_zero, List.getElem?_cons_succ, List.set_cons_zero, List.set_cons_succ, List.length_cons, List.length_nil, Option.map_some, Bool.not_true, Bool.not_false, setO_k, frz_d, frz_ol, frz_drw, frz_scr, getD_d, getD_ol, z]
  | succ j =>
    have z : decide ((0 : Int) < ((0 + (j + 1) : Nat) : Int)) = true := decide_eq_true (by omega)
    obtain ⟨p', ep'⟩ : ∃ p', gs[j]? = some p' := by
      have : j + 1 < gs.length := by
        by_cases q : j + 1 < gs.length
        · exact q
        · rw [List.getElem?_eq_none (by omega)] at ep; cases ep
      exact ⟨_, List.getElem?_eq_getElem (by omega)⟩
    have ix : ixD (.d (goodOf gs)) (.int (((0 + (j + 1) : Nat) : Int) - 1)) = some (.int p') := ix_tup (i := j) (by omega) (by rw [List.getElem?_map, ep']; rfl)
    simp only [xs_cons, xs_nil, x_asg, x_ex, x_ret, x_retV, x_ret0, x_ite, x_tr, r_var, r_use, r_int, r_str, r_bl, r_non, r_glob, r_tup, r_lst, r_bin, r_neg, r_not, r_cmp, r_cmp2, r_and1, r_and2, r_and, r_or1, r_or2, r_or, r_ite, r_ix, r_o0, r_oi, r_on, r_sl, r_bi, r_b0, r_b1, r_s0, r_s1, r_isi, r_te, r_tand, r_tor, r_tnot, r_ta0, r_ta1, r_to0, r_to1, bnd_ok, bnd_er, br_t, br_f, ofO_some, slotO_ok, useO_d, useO_drw, useO_scr, useO_ol, useO_od, boolO_ok, callO_ok, callO_er, a_nm, a_tp1, a_tp2, a_tp3, a_tp4, flw_nx, flw_rt, flw_bk, flw_ct, fin_rt, fin_nx, fin_er, tr_ok, tr_er, List.getElem?_cons_zero, List.getElem?_cons_succ, List.set_cons_zero, List.set_cons_succ, List.length_cons, List.length_nil, Option.map_some, Bool.not_true, Bool.not_false, setO_k, frz_d, frz_ol, frz_drw, frz_scr, getD_d, getD_ol, z, ix, b_sub, d_dat, c_lt, decide_eq_true (ok.gi j p' p ep' ep)]
theorem need_ok (n : Nat) (rs : List (Int × Str × Int)) (gs : List Int) (ok : RdOk rs gs) (dr : Option Draw) : callN tx.txt (n + 3) "need_reader" [.d (readerOf rs gs)] dr = .ok (.d (readerOf rs gs)) dr := by
  rw [call_fd (fd := f_need_reader) rfl rfl rfl]
  show finO (execs _ f_need_reader_b ⟨[some (.d (readerOf rs gs)), none, none, none, none, none], dr⟩) = _
  have e1 : isiV .tuple (.d (readerOf rs gs)) = some true := rfl
  have e2 : biV .len [.d (readerOf rs gs)] = some (.d (.int 2)) := rfl
  have n1 : ((2 : Int) == 2) = true := rfl
  have e3 : isiV .tuple (.d (rulesOf rs)) = some true := rfl
  have e4 : isiV .tuple (.d (goodOf gs)) = some true := rfl
  have a2 : ∀ a b s, asgT (.tp2 a b) (.d (readerOf rs gs)) s = (asgT a (.d (rulesOf rs)) s).bnd fun _ s => asgT b (.d (goodOf gs)) s := fun a b s => a_tp2 a b _ _ s
  obtain ⟨y3, y4, f1⟩ := need_for1 n rs gs ok dr (some (.d (readerOf rs gs))) (some (.d (goodOf gs))) none none none
  obtain ⟨y3', y5, f2⟩ := need_for2 n rs gs ok dr (some (.d (readerOf rs gs))) (some (.d (rulesOf rs))) y3 y4 none
  have m1 : enmV (.d (rulesOf rs)) = some (enumL 0 (rs.map ruleOf)) := rfl
  have m2 : enmV (.d (goodOf gs)) = some (enumL 0 (gs.map PyData.int)) := rfl
  simp only [xs_cons, xs_nil, x_asg, x_ex, x_ret, x_retV, x_ret0, x_ite, x_tr, r_var, r_use, r_int, r_str, r_bl, r_non, r_glob, r_tup, r_lst, r_bin, r_neg, r_not, r_cmp, r_cmp2, r_and1, r_and2, r_and, r_or1, r_or2, r_or, r_ite, r_ix, r_o0, r_oi, r_on, r_sl, r_bi, r_b0, r_b1, r_s0, r_s1, r_isi, r_te, r_tand, r_tor, r_tnot, r_ta0, r_ta1, r_to0, r_to1, bnd_ok, bnd_er, br_t, br_f, ofO_some, slotO_ok, useO_d, useO_drw, useO_scr, useO_ol, useO_od, boolO_ok, callO_ok, callO_er, a_nm, a_tp1, a_tp2, a_tp3, a_tp4, flw_nx, flw_rt, flw_bk, flw_ct, fin_rt, fin_nx, fin_er, tr_ok, tr_er, List.getElem?_cons_zero, List.getElem?_cons_succ, List.set_cons_zero, List.set_cons_succ, List.length_cons, List.length_nil, Option.map_some, Bool.not_true, Bool.not_false, setO_k, frz_d, frz_ol, frz_drw, frz_scr, getD_d, getD_ol, f_need_reader_b, e1, e2, e3, e4, n1, c_ne, a2, x_for, i_enmv, m1, m2, f1, f2, Nat.reduceAdd, Nat.reduceLT, decide_true]
/-! ### the tables -/
def prOf (p : Int × Str × Int) : PyData × PyData := (.tuple [.int p.1, .str p.2.1], .int p.2.2)
def tab (rs : List (Int × Str × Int)) : List (PyData × PyData) := mergeD [] (rs.map prOf)
theorem mergeD_snoc : ∀ (kvs ps : List (PyData × PyData)) (p : PyData × PyData), mergeD kvs (ps ++ [p]) = dPut (mergeD kvs ps) p.1 p.2
  | kvs, [], p => rfl
  | kvs, (k, v) :: r, p => mergeD_snoc (dPut kvs k v) r p
theorem dPut_len (kvs : List (PyData × PyData)) (k v : PyData) : (dPut kvs k v).length ≤ kvs.length + 1 := by
  unfold dPut
  split
  · rw [List.length_map]; omega
  · rw [List.length_append]; simp
theorem dPut_all {P : PyData → PyData → Prop} {kvs : List (PyData × PyData)} {k v : PyData} (h : ∀ p ∈ kvs, P p.1 p.2) (hk : P k v) (hv : ∀ k', (∃ v', P k' v') → P k' v) : ∀ p ∈ dPut kvs k v, P p.1 p.2 := by
  unfold dPut
  split
  · intro p hp
    obtain ⟨q, hq, rfl⟩ := List.mem_map.mp hp
    split
    · exact hv _ ⟨_, h q hq⟩
    · exact h q hq
  · intro p hp
    rcases List.mem_append.mp hp with e | e
    · exact h p e
    · cases List.mem_singleton.mp e; exact hk
def Ent (k v : PyData) : Prop := isTupD k = true ∧ ∃ t : Int, v = .int t
theorem merge_ok : ∀ (n : Nat) (rs : List (Int × Str × Int)), rs.length = n → (∀ p ∈ mergeD [] (rs.map prOf), Ent p.1 p.2) ∧ (mergeD [] (rs.map prOf)).length ≤ rs.length
  | 0, rs, h => by
    cases rs with
    | nil => exact ⟨(fun p hp => nomatch (show p ∈ ([] : List (PyData × PyData)) from hp)), Nat.le_refl _⟩
    | cons a r => cases h
  | n + 1, rs, h => by
    obtain ⟨r, a, rfl⟩ : ∃ r a, rs = r ++ [a] := ⟨rs.dropLast, rs.getLast (by intro z; rw [z] at h; cases h), (List.dropLast_concat_getLast _).symm⟩
    have hl : r.length = n := by simpa using h
    obtain ⟨h1, h2⟩ := merge_ok n r hl
    rw [List.map_append, List.map_singleton, mergeD_snoc]
    refine ⟨dPut_all h1 ⟨rfl, _, rfl⟩ fun k' ⟨v', hk'⟩ => ⟨hk'.1, _, rfl⟩, ?_⟩
    have := dPut_len (mergeD [] (r.map prOf)) (prOf a).1 (prOf a).2
    rw [List.length_append]
    simp only [List.length_singleton]
    omega
theorem keys_ok {kvs : List (PyData × PyData)} (h : ∀ p ∈ kvs, Ent p.1 p.2) (s : Int) (c : Str) : keysWith (kvs.map (·.1)) (.tuple [.int s, .str c]) = true := by
  unfold keysWith
  rw [Bool.and_eq_true]
  refine ⟨rfl, ?_⟩
  rw [List.all_eq_true]
  intro x hx
  obtain ⟨p, hp, rfl⟩ := List.mem_map.mp hx
  rw [(h p hp).1]; rfl
theorem table_ok (n : Nat) (rs : List (Int × Str × Int)) (gs : List Int) (hl : rs.length < sizeLine) (dr : Option Draw) : callN tx.txt (n + 1) "table_of" [.d (readerOf rs gs)] dr = .ok (.od (tab rs)) dr := by
  rw [call_fd (fd := f_table_of) rfl rfl rfl]
  show finO (execs _ f_table_of_b ⟨[some (.d (readerOf rs gs)), none, none, none], dr⟩) = _
  have ix : ixD (.d (readerOf rs gs)) (.int 0) = some (rulesOf rs) := rfl
  have iv : itemsV (.d (rulesOf rs)) = some (rs.map ruleOf) := rfl
  have hi : evi (tx.txt.env n) (.pl (.ix (.var 0 "reader") (.int 0))) ⟨[some (.d (readerOf rs gs)), none, none, none], dr⟩ = .ok (rs.map ruleOf) ⟨[some (.d (readerOf rs gs)), none, none, none], dr⟩ := by
    simp only [xs_cons, xs_nil, x_asg, x_ex, x_ret, x_retV, x_ret0, x_ite, x_tr, r_var, r_use, r_int, r_str, r_bl, r_non, r_glob, r_tup, r_lst, r_bin, r_neg, r_not, r_cmp, r_cmp2, r_and1, r_and2, r_and, r_or1, r_or2, r_or, r_ite, r_ix, r_o0, r_oi, r_on, r_sl, r_bi, r_b0, r_b1, r_s0, r_s1, r_isi, r_te, r_tand, r_tor, r_tnot, r_ta0, r_ta1, r_to0, r_to1, bnd_ok, bnd_er, br_t, br_f, ofO_some, slotO_ok, useO_d, useO_drw, useO_scr, useO_ol, useO_od, boolO_ok, callO_ok, callO_er, a_nm, a_tp1, a_tp2, a_tp3, a_tp4, flw_nx, flw_rt, flw_bk, flw_ct, fin_rt, fin_nx, fin_er, tr_ok, tr_er, List.getElem?_cons_zero, List.getElem?_cons_succ, List.set_cons_zero, List.set_cons_succ, List.length_cons, List.length_nil, Option.map_some, Bool.not_true, Bool.not_false, setO_k, frz_d, frz_ol, frz_drw, frz_scr, getD_d, getD_ol, i_plv, ix, iv, d_dat]
  obtain ⟨ys, e, rfl⟩ := ev_dcI (Γ := tx.txt.env n) (own := [("state", 1), ("sign", 2), ("to", 3)]) (tg := .tp3 (.nm 1 "state") (.nm 2 "sign") (.nm 3 "to")) (ts := .nil) (k := .tup (.cons (.var 1 "state") (.cons (.var 2 "sign") .nil))) (v := .var 3 "to") (m := true) (fun i acc => acc = mergeD [] ((rs.take i).map prOf)) hi rfl rfl (by
    rintro i x acc hx rfl
    obtain ⟨p, ep, rfl⟩ := rget hx
    refine ⟨some (prOf p), [some (.d (readerOf rs gs)), some (.d (.int p.1)), some (.d (.str p.2.1)), some (.d (.int p.2.2))], rfl, ?_, ?_, ?_⟩
    · have a3 : ∀ a b c s, asgT (.tp3 a b c) (.d (ruleOf p)) s = (asgT a (.d (.int p.1)) s).bnd fun _ s => (asgT b (.d (.str p.2.1)) s).bnd fun _ s => asgT c (.d (.int p.2.2)) s := fun a b c s => a_tp3 a b c _ _ _ s
      show dcBody _ _ _ _ _ _ ⟨[some (.d (readerOf rs gs)), none, none, none], dr⟩ = _
      unfold dcBody
      simp only [xs_cons, xs_nil, x_asg, x_ex, x_ret, x_retV, x_ret0, x_ite, x_tr, r_var, r_use, r_int, r_str, r_bl, r_non, r_glob, r_tup, r_lst, r_bin, r_neg, r_not, r_cmp, r_cmp2, r_and1, r_and2, r_and, r_or1, r_or2, r_or, r_ite, r_ix, r_o0, r_oi, r_on, r_sl, r_bi, r_b0, r_b1, r_s0, r_s1, r_isi, r_te, r_tand, r_tor, r_tnot, r_ta0, r_ta1, r_to0, r_to1, bnd_ok, bnd_er, br_t, br_f, ofO_some, slotO_ok, useO_d, useO_drw, useO_scr, useO_ol, useO_od, boolO_ok, callO_ok, callO_er, a_nm, a_tp1, a_tp2, a_tp3, a_tp4, flw_nx, flw_rt, flw_bk, flw_ct, fin_rt, fin_nx, fin_er, tr_ok, tr_er, List.getElem?_cons_zero, List.getElem?_cons_succ, List.set_cons_zero, List.set_cons_succ, List.length_cons, List.length_nil, Option.map_some, Bool.not_true, Bool.not_false, setO_k, frz_d, frz_ol, frz_drw, frz_scr, getD_d, getD_ol, a3, Nat.reduceAdd, Nat.reduceLT, decide_true, datas]
      rfl
    · obtain ⟨h1, h2⟩ := merge_ok _ (rs.take i) rfl
      have h3 : (rs.take i).length ≤ rs.length := by rw [List.length_take]; omega
      show (keysWith ((mergeD [] ((rs.take i).map prOf)).map (·.1)) (.tuple [.int p.1, .str p.2.1]) && decide ((mergeD [] ((rs.take i).map prOf)).length < sizeLine)) = true
      rw [keys_ok h1, decide_eq_true (by omega)]; rfl
    · show dPut (mergeD [] ((rs.take i).map prOf)) (prOf p).1 (prOf p).2 = _
      rw [← mergeD_snoc, List.take_add_one, ep]
      simp)
  simp only [xs_cons, xs_nil, x_asg, x_ex, x_ret, x_retV, x_ret0, x_ite, x_tr, r_var, r_use, r_int, r_str, r_bl, r_non, r_glob, r_tup, r_lst, r_bin, r_neg, r_not, r_cmp, r_cmp2, r_and1, r_and2, r_and, r_or1, r_or2, r_or, r_ite, r_ix, r_o0, r_oi, r_on, r_sl, r_bi, r_b0, r_b1, r_s0, r_s1, r_isi, r_te, r_tand, r_tor, r_tnot, r_ta0, r_ta1, r_to0, r_to1, bnd_ok, bnd_er, br_t, br_f, ofO_some, slotO_ok, useO_d, useO_drw, useO_scr, useO_ol, useO_od, boolO_ok, callO_ok, callO_er, a_nm, a_tp1, a_tp2, a_tp3, a_tp4, flw_nx, flw_rt, flw_bk, flw_ct, fin_rt, fin_nx, fin_er, tr_ok, tr_er, List.getElem?_cons_zero, List.getElem?_cons_succ, List.set_cons_zero, List.set_cons_succ, List.length_cons, List.length_nil, Option.map_some, Bool.not_true, Bool.not_false, setO_k, frz_d, frz_ol, frz_drw, frz_scr, getD_d, getD_ol, f_table_of_b, e, List.length_map, List.take_length]
  rfl
def pairD (p : Int × Str × Int) : PyData := .tuple [(prOf p).1, (prOf p).2]
def toPair (x : PyData) : Option PyData := match x with
  | .tuple [a, b, c] => some (.tuple [.tuple [a, b], c])
  | _ => none
theorem pairs_of : ∀ rs : List (Int × Str × Int), pairsOf (rs.map pairD) = some (rs.map prOf)
  | [] => rfl
  | p :: r => by
    show (match pairOf (pairD p), pairsOf (r.map pairD) with | some p, some ps => some (p :: ps) | _, _ => none) = _
    rw [pairs_of r]; rfl
theorem pairs_map : ∀ rs : List (Int × Str × Int), (rs.map ruleOf).filterMap toPair = rs.map pairD
  | [] => rfl
  | p :: r => by
    show (ruleOf p :: r.map ruleOf).filterMap toPair = pairD p :: r.map pairD
    rw [List.filterMap_cons, pairs_map r]; rfl
theorem dict_of (rs : List (Int × Str × Int)) (h : rs.length ≤ sizeLine) : biV .dict [.ol (rs.map pairD)] = some (.od (tab rs)) := by
  show (match pairsOf (rs.map pairD) with | some ps => if dictOk ps then some (Val.od (mergeD [] ps)) else none | none => none) = _
  rw [pairs_of]
  show (if dictOk (rs.map prOf) then some (Val.od (mergeD [] (rs.map prOf))) else none) = _
  rw [if_pos]
  · rfl
  · unfold dictOk fits
    rw [Bool.and_eq_true, List.length_map]
    refine ⟨?_, decide_eq_true h⟩
    rw [List.all_eq_true]
    intro x hx
    obtain ⟨p, _, rfl⟩ := List.mem_map.mp hx
    rfl
theorem law_table_ok (n : Nat) (rs : List (Int × Str × Int)) (gs : List Int) (hl : rs.length < sizeLine) (dr : Option Draw) : callN tx.txt (n + 1) "_law_table" [.d (readerOf rs gs)] dr = .ok (.od (tab rs)) dr := by
  rw [call_fd (fd := f_law_table) rfl rfl rfl]
  show finO (execs _ f_law_table_b ⟨[some (.d (readerOf rs gs)), none, none, none], dr⟩) = _
  have ix : ixD (.d (readerOf rs gs)) (.int 0) = some (rulesOf rs) := rfl
  have iv : itemsV (.d (rulesOf rs)) = some (rs.map ruleOf) := rfl
  have hi : evi (tx.txt.env n) (.pl (.ix (.var 0 "reader") (.int 0))) ⟨[some (.d (readerOf rs gs)), none, none, none], dr⟩ = .ok (rs.map ruleOf) ⟨[some (.d (readerOf rs gs)), none, none, none], dr⟩ := by
    simp only [xs_cons, xs_nil, x_asg, x_ex, x_ret, x_retV, x_ret0, x_ite, x_tr, r_var, r_use, r_int, r_str, r_bl, r_non, r_glob, r_tup, r_lst, r_bin, r_neg, r_not, r_cmp, r_cmp2, r_and1, r_and2, r_and, r_or1, r_or2, r_or, r_ite, r_ix, r_o0, r_oi, r_on, r_sl, r_bi, r_b0, r_b1, r_s0, r_s1, r_isi, r_te, r_tand, r_tor, r_tnot, r_ta0, r_ta1, r_to0, r_to1, bnd_ok, bnd_er, br_t, br_f, ofO_some, slotO_ok, useO_d, useO_drw, useO_scr, useO_ol, useO_od, boolO_ok, callO_ok, callO_er, a_nm, a_tp1, a_tp2, a_tp3, a_tp4, flw_nx, flw_rt, flw_bk, flw_ct, fin_rt, fin_nx, fin_er, tr_ok, tr_er, List.getElem?_cons_zero, List.getElem?_cons_succ, List.set_cons_zero, List.set_cons_succ, List.length_cons, List.length_nil, Option.map_some, Bool.not_true, Bool.not_false, setO_k, frz_d, frz_ol, frz_drw, frz_scr, getD_d, getD_ol, i_plv, ix, iv, d_dat]
  have e := ev_lcP (Γ := tx.txt.env n) (own := [("state", 1), ("sign", 2), ("to", 3)]) (tg := .tp3 (.nm 1 "state") (.nm 2 "sign") (.nm 3 "to")) (ts := .nil) (elt := .tup (.cons (.tup (.cons (.var 1 "state") (.cons (.var 2 "sign") .nil))) (.cons (.var 3 "to") .nil))) (m := false) toPair hi rfl (by rw [List.length_map]; omega) (by
    intro x hx
    obtain ⟨p, _, rfl⟩ := List.mem_map.mp hx
    refine ⟨[some (.d (readerOf rs gs)), some (.d (.int p.1)), some (.d (.str p.2.1)), some (.d (.int p.2.2))], rfl, ?_⟩
    have a3 : ∀ a b c s, asgT (.tp3 a b c) (.d (ruleOf p)) s = (asgT a (.d (.int p.1)) s).bnd fun _ s => (asgT b (.d (.str p.2.1)) s).bnd fun _ s => asgT c (.d (.int p.2.2)) s := fun a b c s => a_tp3 a b c _ _ _ s
    show lcBody _ _ _ _ _ ⟨[some (.d (readerOf rs gs)), none, none, none], dr⟩ = _
    unfold lcBody
    simp only [xs_cons, xs_nil, x_asg, x_ex, x_ret, x_retV, x_ret0, x_ite, x_tr, r_var, r_use, r_int, r_str, r_bl, r_non, r_glob, r_tup, r_lst, r_bin, r_neg, r_not, r_cmp, r_cmp2, r_and1, r_and2, r_and, r_or1, r_or2, r_or, r_ite, r_ix, r_o0, r_oi, r_on, r_sl, r_bi, r_b0, r_b1, r_s0, r_s1, r_isi, r_te, r_tand, r_tor, r_tnot, r_ta0, r_ta1, r_to0, r_to1, bnd_ok, bnd_er, br_t, br_f, ofO_some, slotO_ok, useO_d, useO_drw, useO_scr, useO_ol, useO_od, boolO_ok, callO_ok, callO_er, a_nm, a_tp1, a_tp2, a_tp3, a_tp4, flw_nx, flw_rt, flw_bk, flw_ct, fin_rt, fin_nx, fin_er, tr_ok, tr_er, List.getElem?_cons_zero, List.getElem?_cons_succ, List.set_cons_zero, List.set_cons_succ, List.length_cons, List.length_nil, Option.map_some, Bool.not_true, Bool.not_false, setO_k, frz_d, frz_ol, frz_drw, frz_scr, getD_d, getD_ol, a3, Nat.reduceAdd, Nat.reduceLT, decide_true, datas]
    rfl)
  simp only [xs_cons, xs_nil, x_asg, x_ex, x_ret, x_retV, x_ret0, x_ite, x_tr, r_var, r_use, r_int, r_str, r_bl, r_non, r_glob, r_tup, r_lst, r_bin, r_neg, r_not, r_cmp, r_cmp2, r_and1, r_and2, r_and, r_or1, r_or2, r_or, r_ite, r_ix, r_o0, r_oi, r_on, r_sl, r_bi, r_b0, r_b1, r_s0, r_s1, r_isi, r_te, r_tand, r_tor, r_tnot, r_ta0, r_ta1, r_to0, r_to1, bnd_ok, bnd_er, br_t, br_f, ofO_some, slotO_ok, useO_d, useO_drw, useO_scr, useO_ol, useO_od, boolO_ok, callO_ok, callO_er, a_nm, a_tp1, a_tp2, a_tp3, a_tp4, flw_nx, flw_rt, flw_bk, flw_ct, fin_rt, fin_nx, fin_er, tr_ok, tr_er, List.getElem?_cons_zero, List.getElem?_cons_succ, List.set_cons_zero, List.set_cons_succ, List.length_cons, List.length_nil, Option.map_some, Bool.not_true, Bool.not_false, setO_k, frz_d, frz_ol, frz_drw, frz_scr, getD_d, getD_ol, f_law_table_b, e, pairs_map, dict_of rs (Nat.le_of_lt hl)]
/-! ### led -/
def signD (c : Nat) : PyData := .str ⟨#[c]⟩
def stepT (kvs : List (PyData × PyData)) (s : Int) (c : Nat) : Option Int := match dGet kvs (.tuple [.int s, signD c]) with
  | some (.int t) => some t
  | _ => none
def ledF (kvs : List (PyData × PyData)) : Int → List Nat → Option Int
  | s, [] => some s
  | s, c :: r => match stepT kvs s c with
    | some t => ledF kvs t r
    | none => none
def optD : Option Int → PyData
  | some k => .int k
  | none => .none
theorem get_ok {kvs : List (PyData × PyData)} (h : ∀ p ∈ kvs, Ent p.1 p.2) (s : Int) (c : Nat) : meV .get (.d (.dict kvs)) [.d (.tuple [.int s, signD c])] = some (.d (optD (stepT kvs s c))) := by
  show (if keysWith (kvs.map (·.1)) (.tuple [.int s, signD c]) then some (Val.d ((dGet kvs (.tuple [.int s, signD c])).getD .none)) else none) = _
  rw [if_pos (show keysWith (kvs.map (·.1)) (.tuple [.int s, signD c]) = true from keys_ok h s _)]
  unfold stepT
  cases e : dGet kvs (.tuple [.int s, signD c]) with
  | none => rfl
  | some v =>
    obtain ⟨p, hp, rfl⟩ := Option.map_eq_some_iff.mp (show (kvs.find? fun p => keyEq p.1 (.tuple [.int s, signD c])).map (·.2) = some v from e)
    obtain ⟨_, t, ht⟩ := h p (List.mem_of_find?_eq_some hp)
    rw [ht]; rfl
def loopO (f : Flw) (s : Sta) (k : Sta → Out Flw) : Out Flw := match f with
  | .nx => k s
  | .ct => k s
  | .bk => .ok .nx s
  | .rt v => .ok (.rt v) s
theorem for_cons (step : PyData → M Flw) (x : PyData) (r : List PyData) (s : Sta) : forGo step (x :: r) s = (step x s).bnd fun f s => loopO f s fun s => forGo step r s := by
  show M.bind (step x) (fun f => match f with | .nx => forGo step r | .ct => forGo step r | .bk => M.ret Flw.nx | .rt v => M.ret (.rt v)) s = _
  rw [M_eq]; congr 1; funext f s; cases f <;> rfl
theorem loop_nx (s : Sta) (k : Sta → Out Flw) : loopO .nx s k = k s := rfl
theorem loop_rt (v : Val) (s : Sta) (k : Sta → Out Flw) : loopO (.rt v) s k = .ok (.rt v) s := rfl
theorem is_non (o : Option Int) : cmpV .is (.d (optD o)) (.d .none) = some o.isNone := by cases o <;> rfl
theorem isnot_non (o : Option Int) : cmpV .isnot (.d (optD o)) (.d .none) = some o.isSome := by cases o <;> rfl
theorem fits2 : decide (2 ≤ sizeLine) = true := by decide
theorem led_go (n : Nat) (kvs : List (PyData × PyData)) (h : ∀ p ∈ kvs, Ent p.1 p.2) (dr : Option Draw) (x2 : Option Val) : ∀ (cs : List Nat) (s : Int) (x3 : Option Val), ∃ y1 y3, forGo (forStep (tx.txt.env n) (.nm 3 "sign") f_led_for1) (cs.map signD) ⟨[some (.d (.dict kvs)), some (.d (.int s)), x2, x3], dr⟩ =
      (match ledF kvs s cs with | some k => .ok .nx ⟨[some (.d (.dict kvs)), some (.d (.int k)), x2, y3], dr⟩ | none => .ok (.rt (.d .none)) ⟨[some (.d (.dict kvs)), y1, x2, y3], dr⟩)
  | [], s, x3 => ⟨none, x3, rfl⟩
  | c :: r, s, x3 => by
    have mk : meKnown .get = true := rfl
    have mt : meTy .get (.d (.dict kvs)) = true := rfl
    have g := get_ok h s c
    have e1 : forStep (tx.txt.env n) (.nm 3 "sign") f_led_for1 (signD c) ⟨[some (.d (.dict kvs)), some (.d (.int s)), x2, x3], dr⟩ = brO (.ok (stepT kvs s c).isNone ⟨[some (.d (.dict kvs)), some (.d (optD (stepT kvs s c))), x2, some (.d (signD c))], dr⟩) (fun s => .ok (.rt (.d .none)) s) (fun s => .ok .nx s) := by
      unfold forStep
      simp only [xs_cons, xs_nil, x_asg, x_ex, x_ret, x_retV, x_ret0, x_ite, x_tr, r_var, r_use, r_int, r_str, r_bl, r_non, r_glob, r_tup, r_lst, r_bin, r_neg, r_not, r_cmp, r_cmp2, r_and1, r_and2, r_and, r_or1, r_or2, r_or, r_ite, r_ix, r_o0, r_oi, r_on, r_sl, r_bi, r_b0, r_b1, r_s0, r_s1, r_isi, r_te, r_tand, r_tor, r_tnot, r_ta0, r_ta1, r_to0, r_to1, bnd_ok, bnd_er, br_t, br_f, ofO_some, slotO_ok, useO_d, useO_drw, useO_scr, useO_ol, useO_od, boolO_ok, callO_ok, callO_er, a_nm, a_tp1, a_tp2, a_tp3, a_tp4, flw_nx, flw_rt, flw_bk, flw_ct, fin_rt, fin_nx, fin_er, tr_ok, tr_er, List.getElem?_cons_zero, List.getElem?_cons_succ, List.set_cons_zero, List.set_cons_succ, List.length_cons, List.length_nil, Option.map_some, Bool.not_true, Bool.not_false, setO_k, frz_d, frz_ol, frz_drw, frz_scr, getD_d, getD_ol, f_led_for1, r_me _ _ _ _ _ _ mk, mt, g, Nat.reduceAdd, Nat.reduceLT, decide_true, datas, is_non, fits, fits2, if_true]
      cases (stepT kvs s c).isNone <;> rfl
    rw [List.map_cons, for_cons, e1]
    unfold ledF
    cases q : stepT kvs s c with
    | none => exact ⟨_, _, rfl⟩
    | some t => exact led_go n kvs h dr x2 r t _
theorem led_ok (n : Nat) (kvs : List (PyData × PyData)) (h : ∀ p ∈ kvs, Ent p.1 p.2) (z : Str) (dr : Option Draw) : callN tx.txt (n + 1) "led" [.d (.dict kvs), .d (.int 0), .d (.str z)] dr = .ok (.d (optD (ledF kvs 0 z.cps.toList))) dr := by
  rw [call_fd (fd := f_led) rfl rfl rfl]
  show finO (execs _ f_led_b ⟨[some (.d (.dict kvs)), some (.d (.int 0)), some (.d (.str z)), none], dr⟩) = _
  have iv : itemsV (.d (.str z)) = some (z.cps.toList.map signD) := rfl
  obtain ⟨y1, y3, e⟩ := led_go n kvs h dr (some (.d (.str z))) z.cps.toList 0 none
  cases q : ledF kvs 0 z.cps.toList with
  | none =>
    rw [q] at e
    simp only [xs_cons, xs_nil, x_asg, x_ex, x_ret, x_retV, x_ret0, x_ite, x_tr, r_var, r_use, r_int, r_str, r_bl, r_non, r_glob, r_tup, r_lst, r_bin, r_neg, r_not, r_cmp, r_cmp2, r_and1, r_and2, r_and, r_or1, r_or2, r_or, r_ite, r_ix, r_o0, r_oi, r_on, r_sl, r_bi, r_b0, r_b1, r_s0, r_s1, r_isi, r_te, r_tand, r_tor, r_tnot, r_ta0, r_ta1, r_to0, r_to1, bnd_ok, bnd_er, br_t, br_f, ofO_some, slotO_ok, useO_d, useO_drw, useO_scr, useO_ol, useO_od, boolO_ok, callO_ok, callO_er, a_nm, a_tp1, a_tp2, a_tp3, a_tp4, flw_nx, flw_rt, flw_bk, flw_ct, fin_rt, fin_nx, fin_er, tr_ok, tr_er, List.getElem?_cons_zero, List.getElem?_cons_succ, List.set_cons_zero, List.set_cons_succ, List.length_cons, List.length_nil, Option.map_some, Bool.not_true, Bool.not_false, setO_k, frz_d, frz_ol, frz_drw, frz_scr, getD_d, getD_ol, f_led_b, x_for, i_plv, iv, e]
    rfl
  | some k =>
    rw [q] at e
    simp only [xs_cons, xs_nil, x_asg, x_ex, x_ret, x_retV, x_ret0, x_ite, x_tr, r_var, r_use, r_int, r_str, r_bl, r_non, r_glob, r_tup, r_lst, r_bin, r_neg, r_not, r_cmp, r_cmp2, r_and1, r_and2, r_and, r_or1, r_or2, r_or, r_ite, r_ix, r_o0, r_oi, r_on, r_sl, r_bi, r_b0, r_b1, r_s0, r_s1, r_isi, r_te, r_tand, r_tor, r_tnot, r_ta0, r_ta1, r_to0, r_to1, bnd_ok, bnd_er, br_t, br_f, ofO_some, slotO_ok, useO_d, useO_drw, useO_scr, useO_ol, useO_od, boolO_ok, callO_ok, callO_er, a_nm, a_tp1, a_tp2, a_tp3, a_tp4, flw_nx, flw_rt, flw_bk, flw_ct, fin_rt, fin_nx, fin_er, tr_ok, tr_er, List.getElem?_cons_zero, List.getElem?_cons_succ, List.set_cons_zero, List.set_cons_succ, List.length_cons, List.length_nil, Option.map_some, Bool.not_true, Bool.not_false, setO_k, frz_d, frz_ol, frz_drw, frz_scr, getD_d, getD_ol, f_led_b, x_for, i_plv, iv, e]
    rfl
theorem law_led_go (n : Nat) (kvs : List (PyData × PyData)) (h : ∀ p ∈ kvs, Ent p.1 p.2) (dr : Option Draw) (x2 : Option Val) : ∀ (cs : List Nat) (o : Option Int) (x3 : Option Val), ∃ y3, forGo (forStep (tx.txt.env n) (.nm 3 "sign") f_law_led_for1) (cs.map signD) ⟨[some (.d (.dict kvs)), some (.d (optD o)), x2, x3], dr⟩ =
      .ok .nx ⟨[some (.d (.dict kvs)), some (.d (optD (o.bind fun s => ledF kvs s cs))), x2, y3], dr⟩
  | [], o, x3 => ⟨x3, by cases o <;> rfl⟩
  | c :: r, o, x3 => by
    have mk : meKnown .get = true := rfl
    have mt : meTy .get (.d (.dict kvs)) = true := rfl
    have e1 : forStep (tx.txt.env n) (.nm 3 "sign") f_law_led_for1 (signD c) ⟨[some (.d (.dict kvs)), some (.d (optD o)), x2, x3], dr⟩ = .ok .nx ⟨[some (.d (.dict kvs)), some (.d (optD (o.bind fun s => stepT kvs s c))), x2, some (.d (signD c))], dr⟩ := by
      unfold forStep
      cases o with
      | none =>
        have hn : cmpV .isnot (.d (optD none)) (.d .none) = some false := rfl
        simp only [xs_cons, xs_nil, x_asg, x_ex, x_ret, x_retV, x_ret0, x_ite, x_tr, r_var, r_use, r_int, r_str, r_bl, r_non, r_glob, r_tup, r_lst, r_bin, r_neg, r_not, r_cmp, r_cmp2, r_and1, r_and2, r_and, r_or1, r_or2, r_or, r_ite, r_ix, r_o0, r_oi, r_on, r_sl, r_bi, r_b0, r_b1, r_s0, r_s1, r_isi, r_te, r_tand, r_tor, r_tnot, r_ta0, r_ta1, r_to0, r_to1, bnd_ok, bnd_er, br_t, br_f, ofO_some, slotO_ok, useO_d, useO_drw, useO_scr, useO_ol, useO_od, boolO_ok, callO_ok, callO_er, a_nm, a_tp1, a_tp2, a_tp3, a_tp4, flw_nx, flw_rt, flw_bk, flw_ct, fin_rt, fin_nx, fin_er, tr_ok, tr_er, List.getElem?_cons_zero, List.getElem?_cons_succ, List.set_cons_zero, List.set_cons_succ, List.length_cons, List.length_nil, Option.map_some, Bool.not_true, Bool.not_false, setO_k, frz_d, frz_ol, frz_drw, frz_scr, getD_d, getD_ol, f_law_led_for1, hn, Nat.reduceAdd, Nat.reduceLT, decide_true]
        rfl
      | some s =>
        have hn : cmpV .isnot (.d (.int s)) (.d .none) = some true := rfl
        have g := get_ok h s c
        have os : optD (some s) = .int s := rfl
        simp only [xs_cons, xs_nil, x_asg, x_ex, x_ret, x_retV, x_ret0, x_ite, x_tr, r_var, r_use, r_int, r_str, r_bl, r_non, r_glob, r_tup, r_lst, r_bin, r_neg, r_not, r_cmp, r_cmp2, r_and1, r_and2, r_and, r_or1, r_or2, r_or, r_ite, r_ix, r_o0, r_oi, r_on, r_sl, r_bi, r_b0, r_b1, r_s0, r_s1, r_isi, r_te, r_tand, r_tor, r_tnot, r_ta0, r_ta1, r_to0, r_to1, bnd_ok, bnd_er, br_t, br_f, ofO_some, slotO_ok, useO_d, useO_drw, useO_scr, useO_ol, useO_od, boolO_ok, callO_ok, callO_er, a_nm, a_tp1, a_tp2, a_tp3, a_tp4, flw_nx, flw_rt, flw_bk, flw_ct, fin_rt, fin_nx, fin_er, tr_ok, tr_er, List.getElem?_cons_zero, List.getElem?_cons_succ, List.set_cons_zero, List.set_cons_succ, List.length_cons, List.length_nil, Option.map_some, Bool.not_true, Bool.not_false, setO_k, frz_d, frz_ol, frz_drw, frz_scr, getD_d, getD_ol, f_law_led_for1, os, hn, r_me _ _ _ _ _ _ mk, mt, g, Nat.reduceAdd, Nat.reduceLT, decide_true, datas, fits, fits2, if_true]
        rfl
    rw [List.map_cons, for_cons, e1]
    obtain ⟨y3, e2⟩ := law_led_go n kvs h dr x2 r (o.bind fun s => stepT kvs s c) (some (.d (signD c)))
    refine ⟨y3, ?_⟩
    show forGo _ _ _ = _
    rw [e2]
    cases o with
    | none => rfl
    | some s =>
      show Out.ok Flw.nx ⟨[_, some (.d (optD ((stepT kvs s c).bind fun s => ledF kvs s r))), _, _], _⟩ = Out.ok Flw.nx ⟨[_, some (.d (optD (ledF kvs s (c :: r)))), _, _], _⟩
      have : ((stepT kvs s c).bind fun s => ledF kvs s r) = ledF kvs s (c :: r) := by
        show _ = (match stepT kvs s c with | some t => ledF kvs t r | none => none)
        cases stepT kvs s c <;> rfl
      rw [this]
theorem law_led_ok (n : Nat) (kvs : List (PyData × PyData)) (h : ∀ p ∈ kvs, Ent p.1 p.2) (z : Str) (dr : Option Draw) : callN tx.txt (n + 1) "_law_led" [.d (.dict kvs), .d (.int 0), .d (.str z)] dr = .ok (.d (optD (ledF kvs 0 z.cps.toList))) dr := by
  rw [call_fd (fd := f_law_led) rfl rfl rfl]
  show finO (execs _ f_law_led_b ⟨[some (.d (.dict kvs)), some (.d (optD (some 0))), some (.d (.str z)), none], dr⟩) = _
  have iv : itemsV (.d (.str z)) = some (z.cps.toList.map signD) := rfl
  obtain ⟨y3, e⟩ := law_led_go n kvs h dr (some (.d (.str z))) z.cps.toList (some 0) none
  simp only [xs_cons, xs_nil, x_asg, x_ex, x_ret, x_retV, x_ret0, x_ite, x_tr, r_var, r_use, r_int, r_str, r_bl, r_non, r_glob, r_tup, r_lst, r_bin, r_neg, r_not, r_cmp, r_cmp2, r_and1, r_and2, r_and, r_or1, r_or2, r_or, r_ite, r_ix, r_o0, r_oi, r_on, r_sl, r_bi, r_b0, r_b1, r_s0, r_s1, r_isi, r_te, r_tand, r_tor, r_tnot, r_ta0, r_ta1, r_to0, r_to1, bnd_ok, bnd_er, br_t, br_f, ofO_some, slotO_ok, useO_d, useO_drw, useO_scr, useO_ol, useO_od, boolO_ok, callO_ok, callO_er, a_nm, a_tp1, a_tp2, a_tp3, a_tp4, flw_nx, flw_rt, flw_bk, flw_ct, fin_rt, fin_nx, fin_er, tr_ok, tr_er, List.getElem?_cons_zero, List.getElem?_cons_succ, List.set_cons_zero, List.set_cons_succ, List.length_cons, List.length_nil, Option.map_some, Bool.not_true, Bool.not_false, setO_k, frz_d, frz_ol, frz_drw, frz_scr, getD_d, getD_ol, f_law_led_b, x_for, i_plv, iv, e]
  rfl
end K07

set_option Elab.async false
set_option linter.all false
set_option maxRecDepth 100000
set_option maxHeartbeats 4000000
namespace K07
open PySem Mini
/-! ### texts -/
def Lt (c : Nat) : Prop := c = 97 ∨ c = 98 ∨ c = 64 ∨ c = 65 ∨ c = 72 ∨ c = 66
def lineOf (cs : List Nat) : Str := ⟨(cs ++ [59]).toArray⟩
def SG : Str := "0123456789@abcdefghijklmnopqrstuvwxyz"
def MK : Str := "ABCDEFGH"
theorem c_in (x y : Str) : cmpV .isIn (.d (.str x)) (.d (.str y)) = some (inStr x y) := rfl
theorem in_all {c : Nat} (h : Lt c) : inStr ⟨#[c]⟩ (SG ++ MK) = true := by rcases h with rfl | rfl | rfl | rfl | rfl | rfl <;> decide +kernel
theorem in_two {c : Nat} (h : Lt c ∨ c = 59) : inStr ⟨#[c]⟩ (MK ++ "@") = inStr ⟨#[c]⟩ "@ABCDEFGH" := by rcases h with (rfl | rfl | rfl | rfl | rfl | rfl) | rfl <;> decide +kernel
theorem fits_of {n : Nat} (h : n ≤ 1000) : fits n = true := decide_eq_true (Nat.le_trans h (by decide))
theorem b_str {x y : Str} (h : x.length + y.length ≤ 1000) : binV .add (.d (.str x)) (.d (.str y)) = some (.d (.str (x ++ y))) := by
  show (if fits (x.length + y.length) then some (Mini.str (x ++ y)) else none) = _
  rw [if_pos (fits_of h)]; rfl
theorem sl_line {cs : List Nat} (h : cs.length ≤ 100) : slD (.d (.str (lineOf cs))) none (some (-1)) = some (.d (.str ⟨cs.toArray⟩)) := by
  have hl : (lineOf cs).length = cs.length + 1 := by show (cs ++ [59]).toArray.size = _; simp
  show (if fits (lineOf cs).length then some (Mini.str ⟨(cutL (lineOf cs).cps.toList none (some (-1))).toArray⟩) else none) = _
  rw [if_pos (fits_of (by omega))]
  have : cutL (lineOf cs).cps.toList none (some (-1)) = cs := by
    show cutL (cs ++ [59]) none (some (-1)) = cs
    unfold cutL cutIx
    simp
    rw [List.take_append_of_le_length (by omega), List.take_of_length_le (by omega)]
  rw [this]; rfl
theorem ix_line {cs : List Nat} (h : cs.length ≤ 100) : ixD (.d (.str (lineOf cs))) (.int (-1)) = some (.str ";") := by
  have hl : (lineOf cs).length = cs.length + 1 := by show (cs ++ [59]).toArray.size = _; simp
  show (if fits (lineOf cs).length then (ixOf (lineOf cs).cps.toList.length (-1)).bind (fun k => ((lineOf cs).cps.toList[k]?).map fun c => PyData.str ⟨#[c]⟩) else none) = _
  rw [if_pos (fits_of (by omega))]
  show (ixOf (cs ++ [59]).length (-1)).bind (fun k => ((cs ++ [59])[k]?).map fun c => PyData.str ⟨#[c]⟩) = _
  unfold ixOf
  rw [if_neg (by decide), if_pos (by simp; omega)]
  show ((cs ++ [59])[(cs ++ [59]).length - 1]?).map _ = _
  rw [List.length_append, show cs.length + [59].length - 1 = cs.length from rfl, List.getElem?_append_right (Nat.le_refl _), Nat.sub_self]
  rfl
theorem items_line (cs : List Nat) : itemsV (.d (.str (lineOf cs))) = some ((cs ++ [59]).map signD) := rfl
theorem items_cut (cs : List Nat) : itemsV (.d (.str ⟨cs.toArray⟩)) = some (cs.map signD) := rfl
theorem ne_empty (cs : List Nat) : cmpV .eq (.d (.str (lineOf cs))) (.d (.str "")) = some false := by
  show (if plainD (.str (lineOf cs)) && plainD (.str "") then some (lineOf cs == "") else none) = _
  rw [if_pos (show (plainD (.str (lineOf cs)) && plainD (.str "")) = true from rfl)]
  congr 1
  rw [beq_eq_false_iff_ne]
  intro z
  have := congrArg (fun s : Str => s.cps.size) z
  simp [lineOf] at this
  cases this
/-! marks -/
def plF (x : PyData) : Option PyData := match x with
  | .str y => some (if inStr y MK then .str "@" else .str y)
  | _ => none
def pl (c : Nat) : Str := if inStr ⟨#[c]⟩ MK then "@" else ⟨#[c]⟩
theorem pl_map : ∀ cs : List Nat, (cs.map signD).filterMap plF = cs.map fun c => PyData.str (pl c)
  | [] => rfl
  | c :: r => by
    rw [List.map_cons, List.filterMap_cons, pl_map r]
    have e : plF (signD c) = some (PyData.str (pl c)) := by
      show some (if inStr ⟨#[c]⟩ MK then PyData.str "@" else .str ⟨#[c]⟩) = _
      unfold pl
      split <;> rfl
    rw [e]; rfl
theorem all_strs : ∀ ys : List Str, allStrs (ys.map PyData.str) = some ys
  | [] => rfl
  | y :: r => by
    show (allStrs (r.map PyData.str)).map (y :: ·) = _
    rw [all_strs r]; rfl
theorem pl_len (c : Nat) : (pl c).length = 1 := by unfold pl; split <;> rfl
theorem pl_sum : ∀ cs : List Nat, ((cs.map pl).map (·.length)).sum = cs.length
  | [] => rfl
  | c :: r => by simp only [List.map_cons, List.sum_cons, pl_len, List.length_cons]; rw [show (List.map (fun x => x.length) (List.map pl r)).sum = r.length from pl_sum r]; omega
def plain (cs : List Nat) : Str := Txt.join "" (cs.map pl)
theorem join_ok (cs : List Nat) (h : cs.length ≤ 100) : meV .join (.d (.str "")) [.ol ((cs.map signD).filterMap plF)] = some (.d (.str (plain cs))) := by
  rw [pl_map, show (cs.map fun c => PyData.str (pl c)) = (cs.map pl).map PyData.str by rw [List.map_map]; rfl]
  show (match allStrs ((cs.map pl).map PyData.str) with | some (ys : List Str) => if decide ((ys.map (fun x => Str.length x)).sum + ys.length * (("" : Str)).length ≤ 16777216) then some (Mini.str (Txt.join "" ys)) else none | none => none) = _
  rw [all_strs]
  show (if decide (((cs.map pl).map (·.length)).sum + (cs.map pl).length * (("" : Str)).length ≤ 16777216) then some (Mini.str (Txt.join "" (cs.map pl))) else none) = _
  rw [pl_sum, if_pos]
  · rfl
  · rw [List.length_map, decide_eq_true_eq]
    show cs.length + cs.length * 0 ≤ _
    omega
theorem dedup_snoc : ∀ (acc ys : List PyData) (y : PyData), dedup acc (ys ++ [y]) = sPut (dedup acc ys) y
  | acc, [], y => rfl
  | acc, z :: r, y => dedup_snoc (sPut acc z) r y
theorem sPut_len (acc : List PyData) (y : PyData) : (sPut acc y).length ≤ acc.length + 1 := by
  unfold sPut; split
  · omega
  · rw [List.length_append]; simp
theorem sPut_all {P : PyData → Prop} {acc : List PyData} {y : PyData} (h : ∀ x ∈ acc, P x) (hy : P y) : ∀ x ∈ sPut acc y, P x := by
  unfold sPut; split
  · exact h
  · intro x hx
    rcases List.mem_append.mp hx with e | e
    · exact h x e
    · cases List.mem_singleton.mp e; exact hy
def isS (x : PyData) : Prop := ∃ z, x = .str z
theorem dedup_ok : ∀ (ys acc : List PyData), (∀ x ∈ acc, isS x) → (∀ x ∈ ys, isS x) → (∀ x ∈ dedup acc ys, isS x) ∧ (dedup acc ys).length ≤ acc.length + ys.length
  | [], acc, h, _ => ⟨h, Nat.le_refl _⟩
  | y :: r, acc, h, hy => by
    obtain ⟨h1, h2⟩ := dedup_ok r (sPut acc y) (sPut_all h (hy y (List.mem_cons_self ..))) fun x hx => hy x (List.mem_cons_of_mem _ hx)
    have := sPut_len acc y
    exact ⟨h1, by show (dedup (sPut acc y) r).length ≤ _; rw [List.length_cons]; omega⟩
end K07

set_option Elab.async false
set_option linter.all false
set_option maxRecDepth 100000
set_option maxHeartbeats 4000000
namespace K07
open PySem Mini
def isMc (c : Nat) : Bool := inStr ⟨#[c]⟩ "@ABCDEFGH"
def mks (l : List Nat) : List PyData := (l.filter isMc).map signD
def nMarks (cs : List Nat) : Nat := (dedup [] (mks (cs ++ [59]))).length
def inG (gs : List Int) (o : Option Int) : Bool := (gs.map PyData.int).any fun y => PyData.eqv y (optD o)
theorem c_inG (gs : List Int) (o : Option Int) : cmpV .isIn (.d (optD o)) (.d (goodOf gs)) = some (inG gs o) := by
  show (if plainD (optD o) && (gs.map PyData.int).all plainD then some ((gs.map PyData.int).any fun y => PyData.eqv y (optD o)) else none) = _
  rw [if_pos]
  · rfl
  · rw [Bool.and_eq_true]
    refine ⟨by cases o <;> rfl, ?_⟩
    rw [List.all_eq_true]
    intro x hx
    obtain ⟨g, _, rfl⟩ := List.mem_map.mp hx
    rfl
theorem mks_isS (l : List Nat) : ∀ x ∈ mks l, isS x := fun x hx => by
  obtain ⟨c, _, rfl⟩ := List.mem_map.mp hx
  exact ⟨_, rfl⟩
theorem mks_len (l : List Nat) : (mks l).length ≤ l.length := by unfold mks; rw [List.length_map]; exact List.length_filter_le _ _
theorem keysS {acc : List PyData} (h : ∀ x ∈ acc, isS x) (z : Str) : keysWith acc (.str z) = true := by
  unfold keysWith
  rw [Bool.and_eq_true]
  refine ⟨rfl, ?_⟩
  rw [List.all_eq_true]
  intro x hx
  obtain ⟨y, rfl⟩ := h x hx
  rfl
theorem h_need (n : Nat) : (tx.txt.env n).has "need_reader" = true := rfl
theorem h_led (n : Nat) : (tx.txt.env n).has "led" = true := rfl
theorem h_tab (n : Nat) : (tx.txt.env n).has "table_of" = true := rfl
theorem h_lled (n : Nat) : (tx.txt.env n).has "_law_led" = true := rfl
theorem h_ltab (n : Nat) : (tx.txt.env n).has "_law_table" = true := rfl
theorem all_true : ∀ cs : List Nat, biV .all [.ol ((cs.map signD).filterMap fun _ => some (.bool true))] = some (.d (.bool true)) := fun cs => by
  have : ∀ cs : List Nat, ∃ bs, allBools ((cs.map signD).filterMap fun _ => some (.bool true)) = some bs ∧ bs.all id = true := fun cs => by
    induction cs with
    | nil => exact ⟨[], rfl, rfl⟩
    | cons c r ih =>
      obtain ⟨bs, e1, e2⟩ := ih
      refine ⟨true :: bs, ?_, by simpa using e2⟩
      show (allBools ((r.map signD).filterMap fun _ => some (.bool true))).map (true :: ·) = _
      rw [e1]; rfl
  obtain ⟨bs, e1, e2⟩ := this cs
  show (match allBools ((cs.map signD).filterMap fun _ => some (.bool true)) with | some bs => some (Mini.bl (bs.all id)) | none => none) = _
  rw [e1]
  show some (Mini.bl (bs.all id)) = _
  rw [e2]; rfl
section
variable (n : Nat) (rs : List (Int × Str × Int)) (gs : List Int) (cs : List Nat) (dr : Option Draw) (x3 x4 x5 : Option Val)
theorem tk_all (hcs : ∀ c ∈ cs, Lt c) (hl : cs.length ≤ 50) : ev (tx.txt.env n) (.lc [("sign", 2)] (.nm 2 "sign") (.pl (.sl (.var 1 "text") .none (.some (.neg (.int 1))))) .nil (.cmp .isIn (.var 2 "sign") (.bin .add (.glob "SIGNS") (.glob "MARKS")))) false ⟨[some (.d (readerOf rs gs)), some (.d (.str (lineOf cs))), none, none, none], dr⟩ = .ok (.ol ((cs.map signD).filterMap fun _ => some (.bool true))) ⟨[some (.d (readerOf rs gs)), some (.d (.str (lineOf cs))), none, none, none], dr⟩ := by
  have hi : evi (tx.txt.env n) (.pl (.sl (.var 1 "text") .none (.some (.neg (.int 1))))) ⟨[some (.d (readerOf rs gs)), some (.d (.str (lineOf cs))), none, none, none], dr⟩ = .ok (cs.map signD) ⟨[some (.d (readerOf rs gs)), some (.d (.str (lineOf cs))), none, none, none], dr⟩ := by
    simp only [xs_cons, xs_nil, x_asg, x_ex, x_ret, x_retV, x_ret0, x_ite, x_tr, r_var, r_use, r_int, r_str, r_bl, r_non, r_glob, r_tup, r_lst, r_bin, r_neg, r_not, r_cmp, r_cmp2, r_and1, r_and2, r_and, r_or1, r_or2, r_or, r_ite, r_ix, r_o0, r_oi, r_on, r_sl, r_bi, r_b0, r_b1, r_s0, r_s1, r_isi, r_te, r_tand, r_tor, r_tnot, r_ta0, r_ta1, r_to0, r_to1, bnd_ok, bnd_er, br_t, br_f, ofO_some, slotO_ok, useO_d, useO_drw, useO_scr, useO_ol, useO_od, boolO_ok, callO_ok, callO_er, a_nm, a_tp1, a_tp2, a_tp3, a_tp4, flw_nx, flw_rt, flw_bk, flw_ct, fin_rt, fin_nx, fin_er, tr_ok, tr_er, List.getElem?_cons_zero, List.getElem?_cons_succ, List.set_cons_zero, List.set_cons_succ, List.length_cons, List.length_nil, Option.map_some, Bool.not_true, Bool.not_false, setO_k, frz_d, frz_ol, frz_drw, frz_scr, getD_d, getD_ol, i_plv, sl_line (Nat.le_trans hl (by decide : 50 ≤ 100)), items_cut]
  refine ev_lcP _ hi rfl (by rw [List.length_map]; exact Nat.le_trans hl (by decide)) ?_
  intro x hx
  obtain ⟨c, hc, rfl⟩ := List.mem_map.mp hx
  refine ⟨[some (.d (readerOf rs gs)), some (.d (.str (lineOf cs))), some (.d (signD c)), none, none], rfl, ?_⟩
  have e1 : cmpV .isIn (.d (signD c)) (.d (.str (SG ++ MK))) = some true := by rw [show signD c = .str ⟨#[c]⟩ from rfl, c_in, in_all (hcs c hc)]
  have e2 : binV .add (.d (.str "0123456789@abcdefghijklmnopqrstuvwxyz")) (.d (.str "ABCDEFGH")) = some (.d (.str (SG ++ MK))) := b_str (by decide +kernel)
  show lcBody _ _ _ _ _ ⟨[some (.d (readerOf rs gs)), some (.d (.str (lineOf cs))), none, none, none], dr⟩ = _
  unfold lcBody
  simp only [xs_cons, xs_nil, x_asg, x_ex, x_ret, x_retV, x_ret0, x_ite, x_tr, r_var, r_use, r_int, r_str, r_bl, r_non, r_glob, r_tup, r_lst, r_bin, r_neg, r_not, r_cmp, r_cmp2, r_and1, r_and2, r_and, r_or1, r_or2, r_or, r_ite, r_ix, r_o0, r_oi, r_on, r_sl, r_bi, r_b0, r_b1, r_s0, r_s1, r_isi, r_te, r_tand, r_tor, r_tnot, r_ta0, r_ta1, r_to0, r_to1, bnd_ok, bnd_er, br_t, br_f, ofO_some, slotO_ok, useO_d, useO_drw, useO_scr, useO_ol, useO_od, boolO_ok, callO_ok, callO_er, a_nm, a_tp1, a_tp2, a_tp3, a_tp4, flw_nx, flw_rt, flw_bk, flw_ct, fin_rt, fin_nx, fin_er, tr_ok, tr_er, List.getElem?_cons_zero, List.getElem?_cons_succ, List.set_cons_zero, List.set_cons_succ, List.length_cons, List.length_nil, Option.map_some, Bool.not_true, Bool.not_false, setO_k, frz_d, frz_ol, frz_drw, frz_scr, getD_d, getD_ol, g_signs, g_marks, e2, e1, Nat.reduceAdd, Nat.reduceLT, decide_true]
theorem tk_marks (hcs : ∀ c ∈ cs, Lt c) (hl : cs.length ≤ 50) : ev (tx.txt.env n) (.sc [("sign", 2)] (.nm 2 "sign") (.pl (.var 1 "text")) (.cons (.e (.cmp .isIn (.var 2 "sign") (.bin .add (.glob "MARKS") (.glob "MARK")))) .nil) (.var 2 "sign")) true ⟨[some (.d (readerOf rs gs)), some (.d (.str (lineOf cs))), none, none, none], dr⟩ = .ok (.os (dedup [] (mks (cs ++ [59])))) ⟨[some (.d (readerOf rs gs)), some (.d (.str (lineOf cs))), none, none, none], dr⟩ := by
  have hi : evi (tx.txt.env n) (.pl (.var 1 "text")) ⟨[some (.d (readerOf rs gs)), some (.d (.str (lineOf cs))), none, none, none], dr⟩ = .ok ((cs ++ [59]).map signD) ⟨[some (.d (readerOf rs gs)), some (.d (.str (lineOf cs))), none, none, none], dr⟩ := by
    simp only [xs_cons, xs_nil, x_asg, x_ex, x_ret, x_retV, x_ret0, x_ite, x_tr, r_var, r_use, r_int, r_str, r_bl, r_non, r_glob, r_tup, r_lst, r_bin, r_neg, r_not, r_cmp, r_cmp2, r_and1, r_and2, r_and, r_or1, r_or2, r_or, r_ite, r_ix, r_o0, r_oi, r_on, r_sl, r_bi, r_b0, r_b1, r_s0, r_s1, r_isi, r_te, r_tand, r_tor, r_tnot, r_ta0, r_ta1, r_to0, r_to1, bnd_ok, bnd_er, br_t, br_f, ofO_some, slotO_ok, useO_d, useO_drw, useO_scr, useO_ol, useO_od, boolO_ok, callO_ok, callO_er, a_nm, a_tp1, a_tp2, a_tp3, a_tp4, flw_nx, flw_rt, flw_bk, flw_ct, fin_rt, fin_nx, fin_er, tr_ok, tr_er, List.getElem?_cons_zero, List.getElem?_cons_succ, List.set_cons_zero, List.set_cons_succ, List.length_cons, List.length_nil, Option.map_some, Bool.not_true, Bool.not_false, setO_k, frz_d, frz_ol, frz_drw, frz_scr, getD_d, getD_ol, i_plv, items_line]
  obtain ⟨ys, e, rfl⟩ := ev_scI (Γ := tx.txt.env n) (own := [("sign", 2)]) (tg := .nm 2 "sign") (ts := .cons (.e (.cmp .isIn (.var 2 "sign") (.bin .add (.glob "MARKS") (.glob "MARK")))) .nil) (elt := .var 2 "sign") (m := true) (fun i acc => acc = dedup [] (mks ((cs ++ [59]).take i))) hi rfl rfl (by
    rintro i x acc hx rfl
    rw [List.getElem?_map] at hx
    obtain ⟨c, ec, rfl⟩ := Option.map_eq_some_iff.mp hx
    have hc : Lt c ∨ c = 59 := by
      rcases List.mem_append.mp (List.mem_of_getElem? ec) with z | z
      · exact .inl (hcs c z)
      · exact .inr (List.mem_singleton.mp z)
    have e1 : cmpV .isIn (.d (signD c)) (.d (.str (MK ++ "@"))) = some (isMc c) := by rw [show signD c = .str ⟨#[c]⟩ from rfl, c_in, in_two hc]; rfl
    have e2 : binV .add (.d (.str "ABCDEFGH")) (.d (.str "@")) = some (.d (.str (MK ++ "@"))) := b_str (by decide +kernel)
    have ht : (cs ++ [59]).take (i + 1) = (cs ++ [59]).take i ++ [c] := by rw [List.take_add_one, ec]; rfl
    refine ⟨if isMc c then some (signD c) else none, [some (.d (readerOf rs gs)), some (.d (.str (lineOf cs))), some (.d (signD c)), none, none], rfl, ?_, ?_⟩
    · show lcBody _ _ _ _ _ ⟨[some (.d (readerOf rs gs)), some (.d (.str (lineOf cs))), none, none, none], dr⟩ = _
      unfold lcBody
      simp only [xs_cons, xs_nil, x_asg, x_ex, x_ret, x_retV, x_ret0, x_ite, x_tr, r_var, r_use, r_int, r_str, r_bl, r_non, r_glob, r_tup, r_lst, r_bin, r_neg, r_not, r_cmp, r_cmp2, r_and1, r_and2, r_and, r_or1, r_or2, r_or, r_ite, r_ix, r_o0, r_oi, r_on, r_sl, r_bi, r_b0, r_b1, r_s0, r_s1, r_isi, r_te, r_tand, r_tor, r_tnot, r_ta0, r_ta1, r_to0, r_to1, bnd_ok, bnd_er, br_t, br_f, ofO_some, slotO_ok, useO_d, useO_drw, useO_scr, useO_ol, useO_od, boolO_ok, callO_ok, callO_er, a_nm, a_tp1, a_tp2, a_tp3, a_tp4, flw_nx, flw_rt, flw_bk, flw_ct, fin_rt, fin_nx, fin_er, tr_ok, tr_er, List.getElem?_cons_zero, List.getElem?_cons_succ, List.set_cons_zero, List.set_cons_succ, List.length_cons, List.length_nil, Option.map_some, Bool.not_true, Bool.not_false, setO_k, frz_d, frz_ol, frz_drw, frz_scr, getD_d, getD_ol, g_mark, g_marks, e2, e1, Nat.reduceAdd, Nat.reduceLT, decide_true]
      cases isMc c with
      | true => simp only [xs_cons, xs_nil, x_asg, x_ex, x_ret, x_retV, x_ret0, x_ite, x_tr, r_var, r_use, r_int, r_str, r_bl, r_non, r_glob, r_tup, r_lst, r_bin, r_neg, r_not, r_cmp, r_cmp2, r_and1, r_and2, r_and, r_or1, r_or2, r_or, r_ite, r_ix, r_o0, r_oi, r_on, r_sl, r_bi, r_b0, r_b1, r_s0, r_s1, r_isi, r_te, r_tand, r_tor, r_tnot, r_ta0, r_ta1, r_to0, r_to1, bnd_ok, bnd_er, br_t, br_f, ofO_some, slotO_ok, useO_d, useO_drw, useO_scr, useO_ol, useO_od, boolO_ok, callO_ok, callO_er, a_nm, a_tp1, a_tp2, a_tp3, a_tp4, flw_nx, flw_rt, flw_bk, flw_ct, fin_rt, fin_nx, fin_er, tr_ok, tr_er, List.getElem?_cons_zero, List.getElem?_cons_succ, List.set_cons_zero, List.set_cons_succ, List.length_cons, List.length_nil, Option.map_some, Bool.not_true, Bool.not_false, setO_k, frz_d, frz_ol, frz_drw, frz_scr, getD_d, getD_ol, if_true]
      | false => simp only [xs_cons, xs_nil, x_asg, x_ex, x_ret, x_retV, x_ret0, x_ite, x_tr, r_var, r_use, r_int, r_str, r_bl, r_non, r_glob, r_tup, r_lst, r_bin, r_neg, r_not, r_cmp, r_cmp2, r_and1, r_and2, r_and, r_or1, r_or2, r_or, r_ite, r_ix, r_o0, r_oi, r_on, r_sl, r_bi, r_b0, r_b1, r_s0, r_s1, r_isi, r_te, r_tand, r_tor, r_tnot, r_ta0, r_ta1, r_to0, r_to1, bnd_ok, bnd_er, br_t, br_f, ofO_some, slotO_ok, useO_d, useO_drw, useO_scr, useO_ol, useO_od, boolO_ok, callO_ok, callO_er, a_nm, a_tp1, a_tp2, a_tp3, a_tp4, flw_nx, flw_rt, flw_bk, flw_ct, fin_rt, fin_nx, fin_er, tr_ok, tr_er, List.getElem?_cons_zero, List.getElem?_cons_succ, List.set_cons_zero, List.set_cons_succ, List.length_cons, List.length_nil, Option.map_some, Bool.not_true, Bool.not_false, setO_k, frz_d, frz_ol, frz_drw, frz_scr, getD_d, getD_ol, if_false, Bool.false_eq_true]
    · have hm : mks ((cs ++ [59]).take (i + 1)) = mks ((cs ++ [59]).take i) ++ (if isMc c then [signD c] else []) := by
        rw [ht]
        unfold mks
        rw [List.filter_append, List.map_append]
        congr 1
        by_cases q : isMc c = true
        · simp [q]
        · simp [q]
      obtain ⟨d1, d2⟩ := dedup_ok (mks ((cs ++ [59]).take i)) [] (fun x hx => nomatch hx) (mks_isS _)
      have d3 := mks_len ((cs ++ [59]).take i)
      have d4 : ((cs ++ [59]).take i).length ≤ cs.length + 1 := by rw [List.length_take, List.length_append]; simp only [List.length_singleton]; omega
      by_cases q : isMc c = true
      · rw [q] at hm ⊢
        refine ⟨?_, ?_⟩
        · show (keysWith (dedup [] (mks ((cs ++ [59]).take i))) (.str ⟨#[c]⟩) && decide ((dedup [] (mks ((cs ++ [59]).take i))).length < 60)) = true
          rw [keysS d1, decide_eq_true (by simp only [List.length_nil] at d2; omega)]; rfl
        · show sPut _ _ = dedup [] (mks ((cs ++ [59]).take (i + 1)))
          rw [hm]
          exact (dedup_snoc _ _ _).symm
      · have q : isMc c = false := by simpa using q
        rw [q] at hm ⊢
        show dedup [] (mks ((cs ++ [59]).take i)) = dedup [] (mks ((cs ++ [59]).take (i + 1)))
        rw [hm]
        show _ = dedup [] (mks ((cs ++ [59]).take i) ++ [])
        rw [List.append_nil])
  rw [e, List.length_map, List.take_length]
end
end K07

set_option Elab.async false
set_option linter.all false
set_option maxRecDepth 100000
set_option maxHeartbeats 4000000
namespace K07
open PySem Mini
section
variable (n : Nat) (rs : List (Int × Str × Int)) (gs : List Int) (cs : List Nat) (dr : Option Draw) (x3 x4 x5 : Option Val)
def mkF (x : PyData) : Option PyData := match x with
  | .str y => if inStr y "@ABCDEFGH" then some (.str y) else none
  | _ => none
theorem tk_plain (hl : cs.length ≤ 50) : ev (tx.txt.env n) (.lc [("sign", 2)] (.nm 2 "sign") (.pl (.sl (.var 1 "text") .none (.some (.neg (.int 1))))) .nil (.ite (.e (.cmp .isIn (.var 2 "sign") (.glob "MARKS"))) (.glob "MARK") (.var 2 "sign"))) false ⟨[some (.d (readerOf rs gs)), some (.d (.str (lineOf cs))), none, x3, none], dr⟩ = .ok (.ol ((cs.map signD).filterMap plF)) ⟨[some (.d (readerOf rs gs)), some (.d (.str (lineOf cs))), none, x3, none], dr⟩ := by
  have hi : evi (tx.txt.env n) (.pl (.sl (.var 1 "text") .none (.some (.neg (.int 1))))) ⟨[some (.d (readerOf rs gs)), some (.d (.str (lineOf cs))), none, x3, none], dr⟩ = .ok (cs.map signD) ⟨[some (.d (readerOf rs gs)), some (.d (.str (lineOf cs))), none, x3, none], dr⟩ := by
    simp only [xs_cons, xs_nil, x_asg, x_ex, x_ret, x_retV, x_ret0, x_ite, x_tr, r_var, r_use, r_int, r_str, r_bl, r_non, r_glob, r_tup, r_lst, r_bin, r_neg, r_not, r_cmp, r_cmp2, r_and1, r_and2, r_and, r_or1, r_or2, r_or, r_ite, r_ix, r_o0, r_oi, r_on, r_sl, r_bi, r_b0, r_b1, r_s0, r_s1, r_isi, r_te, r_tand, r_tor, r_tnot, r_ta0, r_ta1, r_to0, r_to1, bnd_ok, bnd_er, br_t, br_f, ofO_some, slotO_ok, useO_d, useO_drw, useO_scr, useO_ol, useO_od, boolO_ok, callO_ok, callO_er, a_nm, a_tp1, a_tp2, a_tp3, a_tp4, flw_nx, flw_rt, flw_bk, flw_ct, fin_rt, fin_nx, fin_er, tr_ok, tr_er, List.getElem?_cons_zero, List.getElem?_cons_succ, List.set_cons_zero, List.set_cons_succ, List.length_cons, List.length_nil, Option.map_some, Bool.not_true, Bool.not_false, setO_k, frz_d, frz_ol, frz_drw, frz_scr, getD_d, getD_ol, i_plv, sl_line (Nat.le_trans hl (by decide : 50 ≤ 100)), items_cut]
  refine ev_lcP _ hi rfl (by rw [List.length_map]; exact Nat.le_trans hl (by decide)) ?_
  intro x hx
  obtain ⟨c, hc, rfl⟩ := List.mem_map.mp hx
  refine ⟨[some (.d (readerOf rs gs)), some (.d (.str (lineOf cs))), some (.d (signD c)), x3, none], rfl, ?_⟩
  have e1 : cmpV .isIn (.d (signD c)) (.d (.str "ABCDEFGH")) = some (inStr ⟨#[c]⟩ MK) := rfl
  have e2 : plF (signD c) = some (if inStr ⟨#[c]⟩ MK then .str "@" else signD c) := rfl
  show lcBody _ _ _ _ _ ⟨[some (.d (readerOf rs gs)), some (.d (.str (lineOf cs))), none, x3, none], dr⟩ = _
  unfold lcBody
  simp only [xs_cons, xs_nil, x_asg, x_ex, x_ret, x_retV, x_ret0, x_ite, x_tr, r_var, r_use, r_int, r_str, r_bl, r_non, r_glob, r_tup, r_lst, r_bin, r_neg, r_not, r_cmp, r_cmp2, r_and1, r_and2, r_and, r_or1, r_or2, r_or, r_ite, r_ix, r_o0, r_oi, r_on, r_sl, r_bi, r_b0, r_b1, r_s0, r_s1, r_isi, r_te, r_tand, r_tor, r_tnot, r_ta0, r_ta1, r_to0, r_to1, bnd_ok, bnd_er, br_t, br_f, ofO_some, slotO_ok, useO_d, useO_drw, useO_scr, useO_ol, useO_od, boolO_ok, callO_ok, callO_er, a_nm, a_tp1, a_tp2, a_tp3, a_tp4, flw_nx, flw_rt, flw_bk, flw_ct, fin_rt, fin_nx, fin_er, tr_ok, tr_er, List.getElem?_cons_zero, List.getElem?_cons_succ, List.set_cons_zero, List.set_cons_succ, List.length_cons, List.length_nil, Option.map_some, Bool.not_true, Bool.not_false, setO_k, frz_d, frz_ol, frz_drw, frz_scr, getD_d, getD_ol, g_mark, g_marks, e2, e1, Nat.reduceAdd, Nat.reduceLT, decide_true]
  cases inStr ⟨#[c]⟩ MK with
  | true => simp only [xs_cons, xs_nil, x_asg, x_ex, x_ret, x_retV, x_ret0, x_ite, x_tr, r_var, r_use, r_int, r_str, r_bl, r_non, r_glob, r_tup, r_lst, r_bin, r_neg, r_not, r_cmp, r_cmp2, r_and1, r_and2, r_and, r_or1, r_or2, r_or, r_ite, r_ix, r_o0, r_oi, r_on, r_sl, r_bi, r_b0, r_b1, r_s0, r_s1, r_isi, r_te, r_tand, r_tor, r_tnot, r_ta0, r_ta1, r_to0, r_to1, bnd_ok, bnd_er, br_t, br_f, ofO_some, slotO_ok, useO_d, useO_drw, useO_scr, useO_ol, useO_od, boolO_ok, callO_ok, callO_er, a_nm, a_tp1, a_tp2, a_tp3, a_tp4, flw_nx, flw_rt, flw_bk, flw_ct, fin_rt, fin_nx, fin_er, tr_ok, tr_er, List.getElem?_cons_zero, List.getElem?_cons_succ, List.set_cons_zero, List.set_cons_succ, List.length_cons, List.length_nil, Option.map_some, Bool.not_true, Bool.not_false, setO_k, frz_d, frz_ol, frz_drw, frz_scr, getD_d, getD_ol, if_true, g_mark]
  | false => simp only [xs_cons, xs_nil, x_asg, x_ex, x_ret, x_retV, x_ret0, x_ite, x_tr, r_var, r_use, r_int, r_str, r_bl, r_non, r_glob, r_tup, r_lst, r_bin, r_neg, r_not, r_cmp, r_cmp2, r_and1, r_and2, r_and, r_or1, r_or2, r_or, r_ite, r_ix, r_o0, r_oi, r_on, r_sl, r_bi, r_b0, r_b1, r_s0, r_s1, r_isi, r_te, r_tand, r_tor, r_tnot, r_ta0, r_ta1, r_to0, r_to1, bnd_ok, bnd_er, br_t, br_f, ofO_some, slotO_ok, useO_d, useO_drw, useO_scr, useO_ol, useO_od, boolO_ok, callO_ok, callO_er, a_nm, a_tp1, a_tp2, a_tp3, a_tp4, flw_nx, flw_rt, flw_bk, flw_ct, fin_rt, fin_nx, fin_er, tr_ok, tr_er, List.getElem?_cons_zero, List.getElem?_cons_succ, List.set_cons_zero, List.set_cons_succ, List.length_cons, List.length_nil, Option.map_some, Bool.not_true, Bool.not_false, setO_k, frz_d, frz_ol, frz_drw, frz_scr, getD_d, getD_ol, if_false, Bool.false_eq_true]
theorem takes_ok (ok : RdOk rs gs) (hr : rs.length < sizeLine) (hcs : ∀ c ∈ cs, Lt c) (hl : cs.length ≤ 50) : callN tx.txt (n + 4) "takes" [.d (readerOf rs gs), .d (.str (lineOf cs))] dr = .ok (.d (.bool (!decide (1 < nMarks cs) && inG gs (ledF (tab rs) 0 (plain cs).cps.toList)))) dr := by
  rw [call_fd (fd := f_takes) rfl rfl rfl]
  show finO (execs _ f_takes_b ⟨[some (.d (readerOf rs gs)), some (.d (.str (lineOf cs))), none, none, none], dr⟩) = _
  have h100 : cs.length ≤ 100 := Nat.le_trans hl (by decide)
  have e1 : isiV .str (.d (.str (lineOf cs))) = some true := rfl
  have e2 : cmpV .ne (.d (.str ";")) (.d (.str ";")) = some false := by decide +kernel
  have hd := need_ok n rs gs ok
  have ha := tk_all (n + 3) rs gs cs dr hcs hl
  have hm := tk_marks (n + 3) rs gs cs dr hcs hl
  have hp := tk_plain (n + 3) rs gs cs dr (some (.os (dedup [] (mks (cs ++ [59]))))) hl
  have hj := join_ok cs h100
  have mk : meKnown .join = true := rfl
  have mt : meTy .join (.d (.str "")) = true := rfl
  have el : biV .len [.os (dedup [] (mks (cs ++ [59])))] = some (.d (.int ((nMarks cs : Nat) : Int))) := rfl
  have ht := table_ok (n + 2) rs gs hr dr
  have hent : ∀ p ∈ tab rs, Ent p.1 p.2 := (merge_ok _ rs rfl).1
  have hled := led_ok (n + 2) (tab rs) hent (plain cs) dr
  have ix : ixD (.d (readerOf rs gs)) (.int 1) = some (goodOf gs) := rfl
  have fo : (Val.od (tab rs)).frz = some (.d (.dict (tab rs))) := rfl
  simp only [xs_cons, xs_nil, x_asg, x_ex, x_ret, x_retV, x_ret0, x_ite, x_tr, r_var, r_use, r_int, r_str, r_bl, r_non, r_glob, r_tup, r_lst, r_bin, r_neg, r_not, r_cmp, r_cmp2, r_and1, r_and2, r_and, r_or1, r_or2, r_or, r_ite, r_ix, r_o0, r_oi, r_on, r_sl, r_bi, r_b0, r_b1, r_s0, r_s1, r_isi, r_te, r_tand, r_tor, r_tnot, r_ta0, r_ta1, r_to0, r_to1, bnd_ok, bnd_er, br_t, br_f, ofO_some, slotO_ok, useO_d, useO_drw, useO_scr, useO_ol, useO_od, boolO_ok, callO_ok, callO_er, a_nm, a_tp1, a_tp2, a_tp3, a_tp4, flw_nx, flw_rt, flw_bk, flw_ct, fin_rt, fin_nx, fin_er, tr_ok, tr_er, List.getElem?_cons_zero, List.getElem?_cons_succ, List.set_cons_zero, List.set_cons_succ, List.length_cons, List.length_nil, Option.map_some, Bool.not_true, Bool.not_false, setO_k, frz_d, frz_ol, frz_drw, frz_scr, getD_d, getD_ol, f_takes_b, r_call _ _ _ _ _ (h_need _), r_call _ _ _ _ _ (h_led _), r_call _ _ _ _ _ (h_tab _), fns_of, hd, e1, ne_empty, ix_line h100, g_end, e2, d_dat, ha, all_true, hm, el, c_gt, Nat.reduceAdd, Nat.reduceLT, decide_true]
  by_cases hM : 1 < nMarks cs
  · have : decide ((1 : Int) < ((nMarks cs : Nat) : Int)) = true := decide_eq_true (by omega)
    simp only [xs_cons, xs_nil, x_asg, x_ex, x_ret, x_retV, x_ret0, x_ite, x_tr, r_var, r_use, r_int, r_str, r_bl, r_non, r_glob, r_tup, r_lst, r_bin, r_neg, r_not, r_cmp, r_cmp2, r_and1, r_and2, r_and, r_or1, r_or2, r_or, r_ite, r_ix, r_o0, r_oi, r_on, r_sl, r_bi, r_b0, r_b1, r_s0, r_s1, r_isi, r_te, r_tand, r_tor, r_tnot, r_ta0, r_ta1, r_to0, r_to1, bnd_ok, bnd_er, br_t, br_f, ofO_some, slotO_ok, useO_d, useO_drw, useO_scr, useO_ol, useO_od, boolO_ok, callO_ok, callO_er, a_nm, a_tp1, a_tp2, a_tp3, a_tp4, flw_nx, flw_rt, flw_bk, flw_ct, fin_rt, fin_nx, fin_er, tr_ok, tr_er, List.getElem?_cons_zero, List.getElem?_cons_succ, List.set_cons_zero, List.set_cons_succ, List.length_cons, List.length_nil, Option.map_some, Bool.not_true, Bool.not_false, setO_k, frz_d, frz_ol, frz_drw, frz_scr, getD_d, getD_ol, this, decide_eq_true hM, Bool.false_and]
  · have : decide ((1 : Int) < ((nMarks cs : Nat) : Int)) = false := decide_eq_false (by omega)
    simp only [xs_cons, xs_nil, x_asg, x_ex, x_ret, x_retV, x_ret0, x_ite, x_tr, r_var, r_use, r_int, r_str, r_bl, r_non, r_glob, r_tup, r_lst, r_bin, r_neg, r_not, r_cmp, r_cmp2, r_and1, r_and2, r_and, r_or1, r_or2, r_or, r_ite, r_ix, r_o0, r_oi, r_on, r_sl, r_bi, r_b0, r_b1, r_s0, r_s1, r_isi, r_te, r_tand, r_tor, r_tnot, r_ta0, r_ta1, r_to0, r_to1, bnd_ok, bnd_er, br_t, br_f, ofO_some, slotO_ok, useO_d, useO_drw, useO_scr, useO_ol, useO_od, boolO_ok, callO_ok, callO_er, a_nm, a_tp1, a_tp2, a_tp3, a_tp4, flw_nx, flw_rt, flw_bk, flw_ct, fin_rt, fin_nx, fin_er, tr_ok, tr_er, List.getElem?_cons_zero, List.getElem?_cons_succ, List.set_cons_zero, List.set_cons_succ, List.length_cons, List.length_nil, Option.map_some, Bool.not_true, Bool.not_false, setO_k, frz_d, frz_ol, frz_drw, frz_scr, getD_d, getD_ol, this, decide_eq_false hM, Bool.true_and, r_me _ _ _ _ _ _ mk, mt, hp, hj, Nat.reduceAdd, Nat.reduceLT, decide_true, r_call _ _ _ _ _ (h_led _), r_call _ _ _ _ _ (h_tab _), fns_of, ht, fo, hled, ix, d_dat, c_inG]
theorem lt_marks (hl : cs.length ≤ 50) : ev (tx.txt.env n) (.lc [("sign", 2)] (.nm 2 "sign") (.pl (.var 1 "text")) (.cons (.e (.cmp .isIn (.var 2 "sign") (.str "@ABCDEFGH"))) .nil) (.var 2 "sign")) false ⟨[some (.d (readerOf rs gs)), some (.d (.str (lineOf cs))), none, none, none, none], dr⟩ = .ok (.ol (((cs ++ [59]).map signD).filterMap mkF)) ⟨[some (.d (readerOf rs gs)), some (.d (.str (lineOf cs))), none, none, none, none], dr⟩ := by
  have hi : evi (tx.txt.env n) (.pl (.var 1 "text")) ⟨[some (.d (readerOf rs gs)), some (.d (.str (lineOf cs))), none, none, none, none], dr⟩ = .ok ((cs ++ [59]).map signD) ⟨[some (.d (readerOf rs gs)), some (.d (.str (lineOf cs))), none, none, none, none], dr⟩ := by
    simp only [xs_cons, xs_nil, x_asg, x_ex, x_ret, x_retV, x_ret0, x_ite, x_tr, r_var, r_use, r_int, r_str, r_bl, r_non, r_glob, r_tup, r_lst, r_bin, r_neg, r_not, r_cmp, r_cmp2, r_and1, r_and2, r_and, r_or1, r_or2, r_or, r_ite, r_ix, r_o0, r_oi, r_on, r_sl, r_bi, r_b0, r_b1, r_s0, r_s1, r_isi, r_te, r_tand, r_tor, r_tnot, r_ta0, r_ta1, r_to0, r_to1, bnd_ok, bnd_er, br_t, br_f, ofO_some, slotO_ok, useO_d, useO_drw, useO_scr, useO_ol, useO_od, boolO_ok, callO_ok, callO_er, a_nm, a_tp1, a_tp2, a_tp3, a_tp4, flw_nx, flw_rt, flw_bk, flw_ct, fin_rt, fin_nx, fin_er, tr_ok, tr_er, List.getElem?_cons_zero, List.getElem?_cons_succ, List.set_cons_zero, List.set_cons_succ, List.length_cons, List.length_nil, Option.map_some, Bool.not_true, Bool.not_false, setO_k, frz_d, frz_ol, frz_drw, frz_scr, getD_d, getD_ol, i_plv, items_line]
  refine ev_lcP _ hi rfl (by rw [List.length_map, List.length_append]; simp only [List.length_singleton]; have : (51 : Nat) ≤ sizeLine := by decide
                             omega) ?_
  intro x hx
  obtain ⟨c, hc, rfl⟩ := List.mem_map.mp hx
  refine ⟨[some (.d (readerOf rs gs)), some (.d (.str (lineOf cs))), some (.d (signD c)), none, none, none], rfl, ?_⟩
  have e1 : cmpV .isIn (.d (signD c)) (.d (.str "@ABCDEFGH")) = some (isMc c) := rfl
  show lcBody _ _ _ _ _ ⟨[some (.d (readerOf rs gs)), some (.d (.str (lineOf cs))), none, none, none, none], dr⟩ = Out.ok (if isMc c then some (signD c) else none) _
  unfold lcBody
  simp only [xs_cons, xs_nil, x_asg, x_ex, x_ret, x_retV, x_ret0, x_ite, x_tr, r_var, r_use, r_int, r_str, r_bl, r_non, r_glob, r_tup, r_lst, r_bin, r_neg, r_not, r_cmp, r_cmp2, r_and1, r_and2, r_and, r_or1, r_or2, r_or, r_ite, r_ix, r_o0, r_oi, r_on, r_sl, r_bi, r_b0, r_b1, r_s0, r_s1, r_isi, r_te, r_tand, r_tor, r_tnot, r_ta0, r_ta1, r_to0, r_to1, bnd_ok, bnd_er, br_t, br_f, ofO_some, slotO_ok, useO_d, useO_drw, useO_scr, useO_ol, useO_od, boolO_ok, callO_ok, callO_er, a_nm, a_tp1, a_tp2, a_tp3, a_tp4, flw_nx, flw_rt, flw_bk, flw_ct, fin_rt, fin_nx, fin_er, tr_ok, tr_er, List.getElem?_cons_zero, List.getElem?_cons_succ, List.set_cons_zero, List.set_cons_succ, List.length_cons, List.length_nil, Option.map_some, Bool.not_true, Bool.not_false, setO_k, frz_d, frz_ol, frz_drw, frz_scr, getD_d, getD_ol, e1, Nat.reduceAdd, Nat.reduceLT, decide_true]
  cases isMc c with
  | true => simp only [xs_cons, xs_nil, x_asg, x_ex, x_ret, x_retV, x_ret0, x_ite, x_tr, r_var, r_use, r_int, r_str, r_bl, r_non, r_glob, r_tup, r_lst, r_bin, r_neg, r_not, r_cmp, r_cmp2, r_and1, r_and2, r_and, r_or1, r_or2, r_or, r_ite, r_ix, r_o0, r_oi, r_on, r_sl, r_bi, r_b0, r_b1, r_s0, r_s1, r_isi, r_te, r_tand, r_tor, r_tnot, r_ta0, r_ta1, r_to0, r_to1, bnd_ok, bnd_er, br_t, br_f, ofO_some, slotO_ok, useO_d, useO_drw, useO_scr, useO_ol, useO_od, boolO_ok, callO_ok, callO_er, a_nm, a_tp1, a_tp2, a_tp3, a_tp4, flw_nx, flw_rt, flw_bk, flw_ct, fin_rt, fin_nx, fin_er, tr_ok, tr_er, List.getElem?_cons_zero, List.getElem?_cons_succ, List.set_cons_zero, List.set_cons_succ, List.length_cons, List.length_nil, Option.map_some, Bool.not_true, Bool.not_false, setO_k, frz_d, frz_ol, frz_drw, frz_scr, getD_d, getD_ol, if_true]
  | false => simp only [xs_cons, xs_nil, x_asg, x_ex, x_ret, x_retV, x_ret0, x_ite, x_tr, r_var, r_use, r_int, r_str, r_bl, r_non, r_glob, r_tup, r_lst, r_bin, r_neg, r_not, r_cmp, r_cmp2, r_and1, r_and2, r_and, r_or1, r_or2, r_or, r_ite, r_ix, r_o0, r_oi, r_on, r_sl, r_bi, r_b0, r_b1, r_s0, r_s1, r_isi, r_te, r_tand, r_tor, r_tnot, r_ta0, r_ta1, r_to0, r_to1, bnd_ok, bnd_er, br_t, br_f, ofO_some, slotO_ok, useO_d, useO_drw, useO_scr, useO_ol, useO_od, boolO_ok, callO_ok, callO_er, a_nm, a_tp1, a_tp2, a_tp3, a_tp4, flw_nx, flw_rt, flw_bk, flw_ct, fin_rt, fin_nx, fin_er, tr_ok, tr_er, List.getElem?_cons_zero, List.getElem?_cons_succ, List.set_cons_zero, List.set_cons_succ, List.length_cons, List.length_nil, Option.map_some, Bool.not_true, Bool.not_false, setO_k, frz_d, frz_ol, frz_drw, frz_scr, getD_d, getD_ol, if_false, Bool.false_eq_true]
theorem lt_plain (hl : cs.length ≤ 50) : ev (tx.txt.env n) (.lc [("sign", 2)] (.nm 2 "sign") (.pl (.sl (.var 1 "text") .none (.some (.neg (.int 1))))) .nil (.ite (.e (.cmp .isIn (.var 2 "sign") (.str "ABCDEFGH"))) (.str "@") (.var 2 "sign"))) false ⟨[some (.d (readerOf rs gs)), some (.d (.str (lineOf cs))), none, x3, none, none], dr⟩ = .ok (.ol ((cs.map signD).filterMap plF)) ⟨[some (.d (readerOf rs gs)), some (.d (.str (lineOf cs))), none, x3, none, none], dr⟩ := by
  have hi : evi (tx.txt.env n) (.pl (.sl (.var 1 "text") .none (.some (.neg (.int 1))))) ⟨[some (.d (readerOf rs gs)), some (.d (.str (lineOf cs))), none, x3, none, none], dr⟩ = .ok (cs.map signD) ⟨[some (.d (readerOf rs gs)), some (.d (.str (lineOf cs))), none, x3, none, none], dr⟩ := by
    simp only [xs_cons, xs_nil, x_asg, x_ex, x_ret, x_retV, x_ret0, x_ite, x_tr, r_var, r_use, r_int, r_str, r_bl, r_non, r_glob, r_tup, r_lst, r_bin, r_neg, r_not, r_cmp, r_cmp2, r_and1, r_and2, r_and, r_or1, r_or2, r_or, r_ite, r_ix, r_o0, r_oi, r_on, r_sl, r_bi, r_b0, r_b1, r_s0, r_s1, r_isi, r_te, r_tand, r_tor, r_tnot, r_ta0, r_ta1, r_to0, r_to1, bnd_ok, bnd_er, br_t, br_f, ofO_some, slotO_ok, useO_d, useO_drw, useO_scr, useO_ol, useO_od, boolO_ok, callO_ok, callO_er, a_nm, a_tp1, a_tp2, a_tp3, a_tp4, flw_nx, flw_rt, flw_bk, flw_ct, fin_rt, fin_nx, fin_er, tr_ok, tr_er, List.getElem?_cons_zero, List.getElem?_cons_succ, List.set_cons_zero, List.set_cons_succ, List.length_cons, List.length_nil, Option.map_some, Bool.not_true, Bool.not_false, setO_k, frz_d, frz_ol, frz_drw, frz_scr, getD_d, getD_ol, i_plv, sl_line (Nat.le_trans hl (by decide : 50 ≤ 100)), items_cut]
  refine ev_lcP _ hi rfl (by rw [List.length_map]; exact Nat.le_trans hl (by decide)) ?_
  intro x hx
  obtain ⟨c, hc, rfl⟩ := List.mem_map.mp hx
  refine ⟨[some (.d (readerOf rs gs)), some (.d (.str (lineOf cs))), some (.d (signD c)), x3, none, none], rfl, ?_⟩
  have e1 : cmpV .isIn (.d (signD c)) (.d (.str "ABCDEFGH")) = some (inStr ⟨#[c]⟩ MK) := rfl
  have e2 : plF (signD c) = some (if inStr ⟨#[c]⟩ MK then .str "@" else signD c) := rfl
  show lcBody _ _ _ _ _ ⟨[some (.d (readerOf rs gs)), some (.d (.str (lineOf cs))), none, x3, none, none], dr⟩ = _
  unfold lcBody
  simp only [xs_cons, xs_nil, x_asg, x_ex, x_ret, x_retV, x_ret0, x_ite, x_tr, r_var, r_use, r_int, r_str, r_bl, r_non, r_glob, r_tup, r_lst, r_bin, r_neg, r_not, r_cmp, r_cmp2, r_and1, r_and2, r_and, r_or1, r_or2, r_or, r_ite, r_ix, r_o0, r_oi, r_on, r_sl, r_bi, r_b0, r_b1, r_s0, r_s1, r_isi, r_te, r_tand, r_tor, r_tnot, r_ta0, r_ta1, r_to0, r_to1, bnd_ok, bnd_er, br_t, br_f, ofO_some, slotO_ok, useO_d, useO_drw, useO_scr, useO_ol, useO_od, boolO_ok, callO_ok, callO_er, a_nm, a_tp1, a_tp2, a_tp3, a_tp4, flw_nx, flw_rt, flw_bk, flw_ct, fin_rt, fin_nx, fin_er, tr_ok, tr_er, List.getElem?_cons_zero, List.getElem?_cons_succ, List.set_cons_zero, List.set_cons_succ, List.length_cons, List.length_nil, Option.map_some, Bool.not_true, Bool.not_false, setO_k, frz_d, frz_ol, frz_drw, frz_scr, getD_d, getD_ol, e2, e1, Nat.reduceAdd, Nat.reduceLT, decide_true]
  cases inStr ⟨#[c]⟩ MK with
  | true => simp only [xs_cons, xs_nil, x_asg, x_ex, x_ret, x_retV, x_ret0, x_ite, x_tr, r_var, r_use, r_int, r_str, r_bl, r_non, r_glob, r_tup, r_lst, r_bin, r_neg, r_not, r_cmp, r_cmp2, r_and1, r_and2, r_and, r_or1, r_or2, r_or, r_ite, r_ix, r_o0, r_oi, r_on, r_sl, r_bi, r_b0, r_b1, r_s0, r_s1, r_isi, r_te, r_tand, r_tor, r_tnot, r_ta0, r_ta1, r_to0, r_to1, bnd_ok, bnd_er, br_t, br_f, ofO_some, slotO_ok, useO_d, useO_drw, useO_scr, useO_ol, useO_od, boolO_ok, callO_ok, callO_er, a_nm, a_tp1, a_tp2, a_tp3, a_tp4, flw_nx, flw_rt, flw_bk, flw_ct, fin_rt, fin_nx, fin_er, tr_ok, tr_er, List.getElem?_cons_zero, List.getElem?_cons_succ, List.set_cons_zero, List.set_cons_succ, List.length_cons, List.length_nil, Option.map_some, Bool.not_true, Bool.not_false, setO_k, frz_d, frz_ol, frz_drw, frz_scr, getD_d, getD_ol, if_true]
  | false => simp only [xs_cons, xs_nil, x_asg, x_ex, x_ret, x_retV, x_ret0, x_ite, x_tr, r_var, r_use, r_int, r_str, r_bl, r_non, r_glob, r_tup, r_lst, r_bin, r_neg, r_not, r_cmp, r_cmp2, r_and1, r_and2, r_and, r_or1, r_or2, r_or, r_ite, r_ix, r_o0, r_oi, r_on, r_sl, r_bi, r_b0, r_b1, r_s0, r_s1, r_isi, r_te, r_tand, r_tor, r_tnot, r_ta0, r_ta1, r_to0, r_to1, bnd_ok, bnd_er, br_t, br_f, ofO_some, slotO_ok, useO_d, useO_drw, useO_scr, useO_ol, useO_od, boolO_ok, callO_ok, callO_er, a_nm, a_tp1, a_tp2, a_tp3, a_tp4, flw_nx, flw_rt, flw_bk, flw_ct, fin_rt, fin_nx, fin_er, tr_ok, tr_er, List.getElem?_cons_zero, List.getElem?_cons_succ, List.set_cons_zero, List.set_cons_succ, List.length_cons, List.length_nil, Option.map_some, Bool.not_true, Bool.not_false, setO_k, frz_d, frz_ol, frz_drw, frz_scr, getD_d, getD_ol, if_false, Bool.false_eq_true]
theorem mks_map : ∀ l : List Nat, (l.map signD).filterMap mkF = mks l
  | [] => rfl
  | c :: r => by
    have e := mks_map r
    unfold mks at e ⊢
    rw [List.map_cons, List.filterMap_cons, e, List.filter_cons]
    have em : mkF (signD c) = if isMc c then some (signD c) else none := rfl
    rw [em]
    cases isMc c <;> rfl
theorem set_ok (l : List Nat) (hl : l.length ≤ 60) : biV .set [.ol (mks l)] = some (.os (dedup [] (mks l))) := by
  show (if setOk (mks l) then some (Val.os (dedup [] (mks l))) else none) = _
  rw [if_pos]
  have h1 := mks_isS l
  have h2 := mks_len l
  unfold setOk
  rw [Bool.and_eq_true]
  refine ⟨?_, ?_⟩
  · rw [List.all_eq_true]
    intro x hx
    obtain ⟨z, rfl⟩ := h1 x hx
    exact keysS h1 z
  · split <;> exact decide_eq_true (by omega)
theorem sort_ok (ys : List PyData) (h : ∀ x ∈ ys, isS x) (hl : ys.length ≤ 100) : ∃ zs, biV .sorted [.os ys] = some (.ol zs) ∧ zs.length = ys.length := by
  refine ⟨sortL ys, ?_, List.length_mergeSort _⟩
  show (if sortOk ys then some (Val.ol (sortL ys)) else none) = _
  rw [if_pos]
  unfold sortOk
  simp only [Bool.and_eq_true, List.all_eq_true, Bool.or_eq_true]
  refine ⟨⟨⟨?_, ?_⟩, fits_of (by omega)⟩, .inr ?_⟩
  · intro x hx y hy
    obtain ⟨z, rfl⟩ := h x hx
    obtain ⟨u, rfl⟩ := h y hy
    rfl
  · intro x hx
    obtain ⟨z, rfl⟩ := h x hx
    rfl
  · intro x hx
    obtain ⟨z, rfl⟩ := h x hx
    exact ⟨rfl, rfl⟩
theorem taken_ok (hr : rs.length < sizeLine) (hl : cs.length ≤ 50) : callN tx.txt (n + 2) "_law_is_taken" [.d (readerOf rs gs), .d (.str (lineOf cs))] dr = .ok (.d (.bool (!decide (1 < nMarks cs) && inG gs (ledF (tab rs) 0 (plain cs).cps.toList)))) dr := by
  rw [call_fd (fd := f_law_is_taken) rfl rfl rfl]
  show finO (execs _ f_law_is_taken_b ⟨[some (.d (readerOf rs gs)), some (.d (.str (lineOf cs))), none, none, none, none], dr⟩) = _
  have h100 : cs.length ≤ 100 := Nat.le_trans hl (by decide)
  have hm := lt_marks (n + 1) rs gs cs dr hl
  rw [mks_map] at hm
  have hset := set_ok (cs ++ [59]) (by rw [List.length_append]; simp only [List.length_singleton]; omega)
  obtain ⟨d1, d2⟩ := dedup_ok (mks (cs ++ [59])) [] (fun x hx => nomatch hx) (mks_isS _)
  have d3 := mks_len (cs ++ [59])
  obtain ⟨zs, hz, zl⟩ := sort_ok (dedup [] (mks (cs ++ [59]))) d1 (by simp only [List.length_append, List.length_singleton, List.length_nil] at d2 d3; omega)
  have hp := lt_plain (n + 1) rs gs cs dr (some (.ol zs)) hl
  have hj := join_ok cs h100
  have mk : meKnown .join = true := rfl
  have mt : meTy .join (.d (.str "")) = true := rfl
  have el : biV .len [.ol zs] = some (.d (.int ((nMarks cs : Nat) : Int))) := by
    show some (Val.d (.int (zs.length : Int))) = _
    rw [zl]; rfl
  have ht := law_table_ok n rs gs hr dr
  have hent : ∀ p ∈ tab rs, Ent p.1 p.2 := (merge_ok _ rs rfl).1
  have hled := law_led_ok n (tab rs) hent (plain cs) dr
  have ix : ixD (.d (readerOf rs gs)) (.int 1) = some (goodOf gs) := rfl
  have fo : (Val.od (tab rs)).frz = some (.d (.dict (tab rs))) := rfl
  simp only [xs_cons, xs_nil, x_asg, x_ex, x_ret, x_retV, x_ret0, x_ite, x_tr, r_var, r_use, r_int, r_str, r_bl, r_non, r_glob, r_tup, r_lst, r_bin, r_neg, r_not, r_cmp, r_cmp2, r_and1, r_and2, r_and, r_or1, r_or2, r_or, r_ite, r_ix, r_o0, r_oi, r_on, r_sl, r_bi, r_b0, r_b1, r_s0, r_s1, r_isi, r_te, r_tand, r_tor, r_tnot, r_ta0, r_ta1, r_to0, r_to1, bnd_ok, bnd_er, br_t, br_f, ofO_some, slotO_ok, useO_d, useO_drw, useO_scr, useO_ol, useO_od, boolO_ok, callO_ok, callO_er, a_nm, a_tp1, a_tp2, a_tp3, a_tp4, flw_nx, flw_rt, flw_bk, flw_ct, fin_rt, fin_nx, fin_er, tr_ok, tr_er, List.getElem?_cons_zero, List.getElem?_cons_succ, List.set_cons_zero, List.set_cons_succ, List.length_cons, List.length_nil, Option.map_some, Bool.not_true, Bool.not_false, setO_k, frz_d, frz_ol, frz_drw, frz_scr, getD_d, getD_ol, f_law_is_taken_b, hm, hset, hz, r_me _ _ _ _ _ _ mk, mt, hp, hj, r_call _ _ _ _ _ (h_lled _), r_call _ _ _ _ _ (h_ltab _), fns_of, ht, fo, hled, el, c_lt, isnot_non, Nat.reduceAdd, Nat.reduceLT, decide_true]
  by_cases hM : 1 < nMarks cs
  · have : decide (((nMarks cs : Nat) : Int) < 2) = false := decide_eq_false (by omega)
    simp only [xs_cons, xs_nil, x_asg, x_ex, x_ret, x_retV, x_ret0, x_ite, x_tr, r_var, r_use, r_int, r_str, r_bl, r_non, r_glob, r_tup, r_lst, r_bin, r_neg, r_not, r_cmp, r_cmp2, r_and1, r_and2, r_and, r_or1, r_or2, r_or, r_ite, r_ix, r_o0, r_oi, r_on, r_sl, r_bi, r_b0, r_b1, r_s0, r_s1, r_isi, r_te, r_tand, r_tor, r_tnot, r_ta0, r_ta1, r_to0, r_to1, bnd_ok, bnd_er, br_t, br_f, ofO_some, slotO_ok, useO_d, useO_drw, useO_scr, useO_ol, useO_od, boolO_ok, callO_ok, callO_er, a_nm, a_tp1, a_tp2, a_tp3, a_tp4, flw_nx, flw_rt, flw_bk, flw_ct, fin_rt, fin_nx, fin_er, tr_ok, tr_er, List.getElem?_cons_zero, List.getElem?_cons_succ, List.set_cons_zero, List.set_cons_succ, List.length_cons, List.length_nil, Option.map_some, Bool.not_true, Bool.not_false, setO_k, frz_d, frz_ol, frz_drw, frz_scr, getD_d, getD_ol, this, decide_eq_true hM, Bool.false_and]
  · have h2 : decide (((nMarks cs : Nat) : Int) < 2) = true := decide_eq_true (by omega)
    cases q : ledF (tab rs) 0 (plain cs).cps.toList with
    | none =>
      have : inG gs none = false := by
        unfold inG
        rw [List.any_eq_false]
        intro x hx
        obtain ⟨g, _, rfl⟩ := List.mem_map.mp hx
        simp [optD, PyData.eqv]
      simp only [xs_cons, xs_nil, x_asg, x_ex, x_ret, x_retV, x_ret0, x_ite, x_tr, r_var, r_use, r_int, r_str, r_bl, r_non, r_glob, r_tup, r_lst, r_bin, r_neg, r_not, r_cmp, r_cmp2, r_and1, r_and2, r_and, r_or1, r_or2, r_or, r_ite, r_ix, r_o0, r_oi, r_on, r_sl, r_bi, r_b0, r_b1, r_s0, r_s1, r_isi, r_te, r_tand, r_tor, r_tnot, r_ta0, r_ta1, r_to0, r_to1, bnd_ok, bnd_er, br_t, br_f, ofO_some, slotO_ok, useO_d, useO_drw, useO_scr, useO_ol, useO_od, boolO_ok, callO_ok, callO_er, a_nm, a_tp1, a_tp2, a_tp3, a_tp4, flw_nx, flw_rt, flw_bk, flw_ct, fin_rt, fin_nx, fin_er, tr_ok, tr_er, List.getElem?_cons_zero, List.getElem?_cons_succ, List.set_cons_zero, List.set_cons_succ, List.length_cons, List.length_nil, Option.map_some, Bool.not_true, Bool.not_false, setO_k, frz_d, frz_ol, frz_drw, frz_scr, getD_d, getD_ol, h2, this, isnot_non, decide_eq_false hM, Bool.true_and, Option.isSome_none]
    | some k => simp only [xs_cons, xs_nil, x_asg, x_ex, x_ret, x_retV, x_ret0, x_ite, x_tr, r_var, r_use, r_int, r_str, r_bl, r_non, r_glob, r_tup, r_lst, r_bin, r_neg, r_not, r_cmp, r_cmp2, r_and1, r_and2, r_and, r_or1, r_or2, r_or, r_ite, r_ix, r_o0, r_oi, r_on, r_sl, r_bi, r_b0, r_b1, r_s0, r_s1, r_isi, r_te, r_tand, r_tor, r_tnot, r_ta0, r_ta1, r_to0, r_to1, bnd_ok, bnd_er, br_t, br_f, ofO_some, slotO_ok, useO_d, useO_drw, useO_scr, useO_ol, useO_od, boolO_ok, callO_ok, callO_er, a_nm, a_tp1, a_tp2, a_tp3, a_tp4, flw_nx, flw_rt, flw_bk, flw_ct, fin_rt, fin_nx, fin_er, tr_ok, tr_er, List.getElem?_cons_zero, List.getElem?_cons_succ, List.set_cons_zero, List.set_cons_succ, List.length_cons, List.length_nil, Option.map_some, Bool.not_true, Bool.not_false, setO_k, frz_d, frz_ol, frz_drw, frz_scr, getD_d, getD_ol, h2, isnot_non, decide_eq_false hM, Bool.true_and, Option.isSome_some, ix, d_dat, c_inG]
end
end K07

set_option Elab.async false
set_option linter.all false
set_option maxRecDepth 100000
set_option maxHeartbeats 4000000
namespace K07
open PySem Mini
section
variable (n : Nat) (rs : List (Int × Str × Int)) (gs : List Int) (dr : Option Draw)
theorem h_exc (n : Nat) : ((tx.txt.env n).exc "OutOfPlace").isSome = true := rfl
theorem exc_ok (n : Nat) : excOf (tx.txt.env n) "OutOfPlace" [.str "no text of a line"] = some ⟨"OutOfPlace", []⟩ := rfl
theorem bad1 (ok : RdOk rs gs) {x : PyData} (h : isiV .str (.d x) = some false) : callN tx.txt (n + 4) "takes" [.d (readerOf rs gs), .d x] dr = .er ⟨"OutOfPlace", []⟩ dr := by
  rw [call_fd (fd := f_takes) rfl rfl rfl]
  show finO (execs _ f_takes_b ⟨[some (.d (readerOf rs gs)), some (.d x), none, none, none], dr⟩) = _
  have hd := need_ok n rs gs ok
  simp only [xs_cons, xs_nil, x_asg, x_ex, x_ret, x_retV, x_ret0, x_ite, x_tr, r_var, r_use, r_int, r_str, r_bl, r_non, r_glob, r_tup, r_lst, r_bin, r_neg, r_not, r_cmp, r_cmp2, r_and1, r_and2, r_and, r_or1, r_or2, r_or, r_ite, r_ix, r_o0, r_oi, r_on, r_sl, r_bi, r_b0, r_b1, r_s0, r_s1, r_isi, r_te, r_tand, r_tor, r_tnot, r_ta0, r_ta1, r_to0, r_to1, bnd_ok, bnd_er, br_t, br_f, ofO_some, slotO_ok, useO_d, useO_drw, useO_scr, useO_ol, useO_od, boolO_ok, callO_ok, callO_er, a_nm, a_tp1, a_tp2, a_tp3, a_tp4, flw_nx, flw_rt, flw_bk, flw_ct, fin_rt, fin_nx, fin_er, tr_ok, tr_er, List.getElem?_cons_zero, List.getElem?_cons_succ, List.set_cons_zero, List.set_cons_succ, List.length_cons, List.length_nil, Option.map_some, Bool.not_true, Bool.not_false, setO_k, frz_d, frz_ol, frz_drw, frz_scr, getD_d, getD_ol, f_takes_b, r_call _ _ _ _ _ (h_need _), fns_of, hd, h, x_raise _ _ _ _ (h_exc _), datas, exc_ok]
theorem bad2 (ok : RdOk rs gs) {z : Str} (h : cmpV .eq (.d (.str z)) (.d (.str "")) = some true) : callN tx.txt (n + 4) "takes" [.d (readerOf rs gs), .d (.str z)] dr = .er ⟨"OutOfPlace", []⟩ dr := by
  rw [call_fd (fd := f_takes) rfl rfl rfl]
  show finO (execs _ f_takes_b ⟨[some (.d (readerOf rs gs)), some (.d (.str z)), none, none, none], dr⟩) = _
  have hd := need_ok n rs gs ok
  have e1 : isiV .str (.d (.str z)) = some true := rfl
  simp only [xs_cons, xs_nil, x_asg, x_ex, x_ret, x_retV, x_ret0, x_ite, x_tr, r_var, r_use, r_int, r_str, r_bl, r_non, r_glob, r_tup, r_lst, r_bin, r_neg, r_not, r_cmp, r_cmp2, r_and1, r_and2, r_and, r_or1, r_or2, r_or, r_ite, r_ix, r_o0, r_oi, r_on, r_sl, r_bi, r_b0, r_b1, r_s0, r_s1, r_isi, r_te, r_tand, r_tor, r_tnot, r_ta0, r_ta1, r_to0, r_to1, bnd_ok, bnd_er, br_t, br_f, ofO_some, slotO_ok, useO_d, useO_drw, useO_scr, useO_ol, useO_od, boolO_ok, callO_ok, callO_er, a_nm, a_tp1, a_tp2, a_tp3, a_tp4, flw_nx, flw_rt, flw_bk, flw_ct, fin_rt, fin_nx, fin_er, tr_ok, tr_er, List.getElem?_cons_zero, List.getElem?_cons_succ, List.set_cons_zero, List.set_cons_succ, List.length_cons, List.length_nil, Option.map_some, Bool.not_true, Bool.not_false, setO_k, frz_d, frz_ol, frz_drw, frz_scr, getD_d, getD_ol, f_takes_b, r_call _ _ _ _ _ (h_need _), fns_of, hd, e1, h, x_raise _ _ _ _ (h_exc _), datas, exc_ok]
theorem bad3 (ok : RdOk rs gs) {z y : Str} (h : cmpV .eq (.d (.str z)) (.d (.str "")) = some false) (h2 : ixD (.d (.str z)) (.int (-1)) = some (.str y)) (h3 : cmpV .ne (.d (.str y)) (.d (.str ";")) = some true) : callN tx.txt (n + 4) "takes" [.d (readerOf rs gs), .d (.str z)] dr = .er ⟨"OutOfPlace", []⟩ dr := by
  rw [call_fd (fd := f_takes) rfl rfl rfl]
  show finO (execs _ f_takes_b ⟨[some (.d (readerOf rs gs)), some (.d (.str z)), none, none, none], dr⟩) = _
  have hd := need_ok n rs gs ok
  have e1 : isiV .str (.d (.str z)) = some true := rfl
  simp only [xs_cons, xs_nil, x_asg, x_ex, x_ret, x_retV, x_ret0, x_ite, x_tr, r_var, r_use, r_int, r_str, r_bl, r_non, r_glob, r_tup, r_lst, r_bin, r_neg, r_not, r_cmp, r_cmp2, r_and1, r_and2, r_and, r_or1, r_or2, r_or, r_ite, r_ix, r_o0, r_oi, r_on, r_sl, r_bi, r_b0, r_b1, r_s0, r_s1, r_isi, r_te, r_tand, r_tor, r_tnot, r_ta0, r_ta1, r_to0, r_to1, bnd_ok, bnd_er, br_t, br_f, ofO_some, slotO_ok, useO_d, useO_drw, useO_scr, useO_ol, useO_od, boolO_ok, callO_ok, callO_er, a_nm, a_tp1, a_tp2, a_tp3, a_tp4, flw_nx, flw_rt, flw_bk, flw_ct, fin_rt, fin_nx, fin_er, tr_ok, tr_er, List.getElem?_cons_zero, List.getElem?_cons_succ, List.set_cons_zero, List.set_cons_succ, List.length_cons, List.length_nil, Option.map_some, Bool.not_true, Bool.not_false, setO_k, frz_d, frz_ol, frz_drw, frz_scr, getD_d, getD_ol, f_takes_b, r_call _ _ _ _ _ (h_need _), fns_of, hd, e1, h, h2, h3, d_dat, g_end, x_raise _ _ _ _ (h_exc _), datas, exc_ok]
def allF (x : PyData) : Option PyData := match x with
  | .str y => some (.bool (inStr y (SG ++ MK)))
  | _ => none
theorem bad4 (ok : RdOk rs gs) {z w : Str} (h : cmpV .eq (.d (.str z)) (.d (.str "")) = some false) (h2 : ixD (.d (.str z)) (.int (-1)) = some (.str ";")) (h4 : slD (.d (.str z)) none (some (-1)) = some (.d (.str w))) (hl : w.cps.toList.length ≤ sizeLine) (h5 : biV .all [.ol ((w.cps.toList.map signD).filterMap allF)] = some (.d (.bool false))) :
    callN tx.txt (n + 4) "takes" [.d (readerOf rs gs), .d (.str z)] dr = .er ⟨"OutOfPlace", []⟩ dr := by
  rw [call_fd (fd := f_takes) rfl rfl rfl]
  show finO (execs _ f_takes_b ⟨[some (.d (readerOf rs gs)), some (.d (.str z)), none, none, none], dr⟩) = _
  have hd := need_ok n rs gs ok
  have e1 : isiV .str (.d (.str z)) = some true := rfl
  have e2 : cmpV .ne (.d (.str ";")) (.d (.str ";")) = some false := by decide +kernel
  have iv : itemsV (.d (.str w)) = some (w.cps.toList.map signD) := rfl
  have hi : evi (tx.txt.env (n + 3)) (.pl (.sl (.var 1 "text") .none (.some (.neg (.int 1))))) ⟨[some (.d (readerOf rs gs)), some (.d (.str z)), none, none, none], dr⟩ = .ok (w.cps.toList.map signD) ⟨[some (.d (readerOf rs gs)), some (.d (.str z)), none, none, none], dr⟩ := by
    simp only [xs_cons, xs_nil, x_asg, x_ex, x_ret, x_retV, x_ret0, x_ite, x_tr, r_var, r_use, r_int, r_str, r_bl, r_non, r_glob, r_tup, r_lst, r_bin, r_neg, r_not, r_cmp, r_cmp2, r_and1, r_and2, r_and, r_or1, r_or2, r_or, r_ite, r_ix, r_o0, r_oi, r_on, r_sl, r_bi, r_b0, r_b1, r_s0, r_s1, r_isi, r_te, r_tand, r_tor, r_tnot, r_ta0, r_ta1, r_to0, r_to1, bnd_ok, bnd_er, br_t, br_f, ofO_some, slotO_ok, useO_d, useO_drw, useO_scr, useO_ol, useO_od, boolO_ok, callO_ok, callO_er, a_nm, a_tp1, a_tp2, a_tp3, a_tp4, flw_nx, flw_rt, flw_bk, flw_ct, fin_rt, fin_nx, fin_er, tr_ok, tr_er, List.getElem?_cons_zero, List.getElem?_cons_succ, List.set_cons_zero, List.set_cons_succ, List.length_cons, List.length_nil, Option.map_some, Bool.not_true, Bool.not_false, setO_k, frz_d, frz_ol, frz_drw, frz_scr, getD_d, getD_ol, i_plv, h4, iv]
  have ha := ev_lcP (Γ := tx.txt.env (n + 3)) (own := [("sign", 2)]) (tg := .nm 2 "sign") (ts := .nil) (elt := .cmp .isIn (.var 2 "sign") (.bin .add (.glob "SIGNS") (.glob "MARKS"))) (m := false) allF hi rfl (by rw [List.length_map]; exact hl) (by
    intro x hx
    obtain ⟨c, hc, rfl⟩ := List.mem_map.mp hx
    refine ⟨[some (.d (readerOf rs gs)), some (.d (.str z)), some (.d (signD c)), none, none], rfl, ?_⟩
    have e1 : cmpV .isIn (.d (signD c)) (.d (.str (SG ++ MK))) = some (inStr ⟨#[c]⟩ (SG ++ MK)) := rfl
    have e3 : allF (signD c) = some (.bool (inStr ⟨#[c]⟩ (SG ++ MK))) := rfl
    have e2 : binV .add (.d (.str "0123456789@abcdefghijklmnopqrstuvwxyz")) (.d (.str "ABCDEFGH")) = some (.d (.str (SG ++ MK))) := b_str (by decide +kernel)
    show lcBody _ _ _ _ _ ⟨[some (.d (readerOf rs gs)), some (.d (.str z)), none, none, none], dr⟩ = _
    unfold lcBody
    simp only [xs_cons, xs_nil, x_asg, x_ex, x_ret, x_retV, x_ret0, x_ite, x_tr, r_var, r_use, r_int, r_str, r_bl, r_non, r_glob, r_tup, r_lst, r_bin, r_neg, r_not, r_cmp, r_cmp2, r_and1, r_and2, r_and, r_or1, r_or2, r_or, r_ite, r_ix, r_o0, r_oi, r_on, r_sl, r_bi, r_b0, r_b1, r_s0, r_s1, r_isi, r_te, r_tand, r_tor, r_tnot, r_ta0, r_ta1, r_to0, r_to1, bnd_ok, bnd_er, br_t, br_f, ofO_some, slotO_ok, useO_d, useO_drw, useO_scr, useO_ol, useO_od, boolO_ok, callO_ok, callO_er, a_nm, a_tp1, a_tp2, a_tp3, a_tp4, flw_nx, flw_rt, flw_bk, flw_ct, fin_rt, fin_nx, fin_er, tr_ok, tr_er, List.getElem?_cons_zero, List.getElem?_cons_succ, List.set_cons_zero, List.set_cons_succ, List.length_cons, List.length_nil, Option.map_some, Bool.not_true, Bool.not_false, setO_k, frz_d, frz_ol, frz_drw, frz_scr, getD_d, getD_ol, g_signs, g_marks, e2, e1, e3, Nat.reduceAdd, Nat.reduceLT, decide_true])
  simp only [xs_cons, xs_nil, x_asg, x_ex, x_ret, x_retV, x_ret0, x_ite, x_tr, r_var, r_use, r_int, r_str, r_bl, r_non, r_glob, r_tup, r_lst, r_bin, r_neg, r_not, r_cmp, r_cmp2, r_and1, r_and2, r_and, r_or1, r_or2, r_or, r_ite, r_ix, r_o0, r_oi, r_on, r_sl, r_bi, r_b0, r_b1, r_s0, r_s1, r_isi, r_te, r_tand, r_tor, r_tnot, r_ta0, r_ta1, r_to0, r_to1, bnd_ok, bnd_er, br_t, br_f, ofO_some, slotO_ok, useO_d, useO_drw, useO_scr, useO_ol, useO_od, boolO_ok, callO_ok, callO_er, a_nm, a_tp1, a_tp2, a_tp3, a_tp4, flw_nx, flw_rt, flw_bk, flw_ct, fin_rt, fin_nx, fin_er, tr_ok, tr_er, List.getElem?_cons_zero, List.getElem?_cons_succ, List.set_cons_zero, List.set_cons_succ, List.length_cons, List.length_nil, Option.map_some, Bool.not_true, Bool.not_false, setO_k, frz_d, frz_ol, frz_drw, frz_scr, getD_d, getD_ol, f_takes_b, r_call _ _ _ _ _ (h_need _), fns_of, hd, e1, h, h2, e2, d_dat, g_end, ha, h5, x_raise _ _ _ _ (h_exc _), datas, exc_ok]
theorem allN0 : biV .all [.ol ((("a;b" : Str).cps.toList.map signD).filterMap allF)] = some (.d (.bool false)) := by kernel_rfl
theorem allN1 : biV .all [.ol (((";" : Str).cps.toList.map signD).filterMap allF)] = some (.d (.bool false)) := by kernel_rfl
theorem allN2 : biV .all [.ol ((("I" : Str).cps.toList.map signD).filterMap allF)] = some (.d (.bool false)) := by kernel_rfl
theorem allN3 : biV .all [.ol ((("a b" : Str).cps.toList.map signD).filterMap allF)] = some (.d (.bool false)) := by kernel_rfl
theorem allN4 : biV .all [.ol ((("-" : Str).cps.toList.map signD).filterMap allF)] = some (.d (.bool false)) := by kernel_rfl
def odds : List PyData := [.none, .int 5, .str "", .str "a", .str "a;b;", .str ";;", .str "I;", .str "a b;", .str "-;", .tuple [.str "a;"], .list [.str "a;"], .dict [], .str "a;\n"]
theorem odd_bad (ok : RdOk rs gs) : ∀ x ∈ odds, callN tx.txt (n + 4) "takes" [.d (readerOf rs gs), .d x] dr = .er ⟨"OutOfPlace", []⟩ dr := by
  intro x hx
  simp only [odds, List.mem_cons, List.not_mem_nil, or_false] at hx
  rcases hx with rfl | rfl | rfl | rfl | rfl | rfl | rfl | rfl | rfl | rfl | rfl | rfl | rfl
  · exact bad1 n rs gs dr ok rfl
  · exact bad1 n rs gs dr ok rfl
  · exact bad2 n rs gs dr ok (by decide +kernel)
  · exact bad3 n rs gs dr ok (y := "a") (by decide +kernel) (by rfl) (by decide +kernel)
  · exact bad4 n rs gs dr ok (w := "a;b") (by decide +kernel) (by rfl) (by rfl) (by decide +kernel) allN0
  · exact bad4 n rs gs dr ok (w := ";") (by decide +kernel) (by rfl) (by rfl) (by decide +kernel) allN1
  · exact bad4 n rs gs dr ok (w := "I") (by decide +kernel) (by rfl) (by rfl) (by decide +kernel) allN2
  · exact bad4 n rs gs dr ok (w := "a b") (by decide +kernel) (by rfl) (by rfl) (by decide +kernel) allN3
  · exact bad4 n rs gs dr ok (w := "-") (by decide +kernel) (by rfl) (by rfl) (by decide +kernel) allN4
  · exact bad1 n rs gs dr ok rfl
  · exact bad1 n rs gs dr ok rfl
  · exact bad1 n rs gs dr ok rfl
  · exact bad3 n rs gs dr ok (y := "\n") (by decide +kernel) (by rfl) (by decide +kernel)
theorem h_takes (n : Nat) : (tx.txt.env n).has "takes" = true := rfl
theorem refused_ok (ok : RdOk rs gs) {x : PyData} (hx : x ∈ odds) : callN tx.txt (n + 5) "_law_is_refused" [.d (readerOf rs gs), .d x] dr = .ok (.d (.bool true)) dr := by
  rw [call_fd (fd := f_law_is_refused) rfl rfl rfl]
  show finO (execs _ f_law_is_refused_b ⟨[some (.d (readerOf rs gs)), some (.d x), none], dr⟩) = _
  have hb := odd_bad n rs gs dr ok x hx
  have hh : ∀ a b c, handle ⟨["OutOfPlace"], none, 2, "found", .cst (.bool true)⟩ ⟨"OutOfPlace", []⟩ ⟨[a, b, c], dr⟩ = .ok .nx ⟨[a, b, some (.d (.bool true))], dr⟩ := fun a b c => rfl
  simp only [xs_cons, xs_nil, x_asg, x_ex, x_ret, x_retV, x_ret0, x_ite, x_tr, r_var, r_use, r_int, r_str, r_bl, r_non, r_glob, r_tup, r_lst, r_bin, r_neg, r_not, r_cmp, r_cmp2, r_and1, r_and2, r_and, r_or1, r_or2, r_or, r_ite, r_ix, r_o0, r_oi, r_on, r_sl, r_bi, r_b0, r_b1, r_s0, r_s1, r_isi, r_te, r_tand, r_tor, r_tnot, r_ta0, r_ta1, r_to0, r_to1, bnd_ok, bnd_er, br_t, br_f, ofO_some, slotO_ok, useO_d, useO_drw, useO_scr, useO_ol, useO_od, boolO_ok, callO_ok, callO_er, a_nm, a_tp1, a_tp2, a_tp3, a_tp4, flw_nx, flw_rt, flw_bk, flw_ct, fin_rt, fin_nx, fin_er, tr_ok, tr_er, List.getElem?_cons_zero, List.getElem?_cons_succ, List.set_cons_zero, List.set_cons_succ, List.length_cons, List.length_nil, Option.map_some, Bool.not_true, Bool.not_false, setO_k, frz_d, frz_ol, frz_drw, frz_scr, getD_d, getD_ol, f_law_is_refused_b, r_call _ _ _ _ _ (h_takes _), fns_of, hb, hh, Nat.reduceAdd, Nat.reduceLT, decide_true]
end
end K07

set_option Elab.async false
set_option linter.all false
set_option maxRecDepth 100000
set_option maxHeartbeats 4000000
namespace K07
open PySem Mini
/-! ### readers drawn -/
def rk (c : Str) : Int := if c = "@" then 0 else if c = "a" then 1 else 2
def code (p : Int × Str × Int) : Int := 3 * p.1 + rk p.2.1
def val (p : Int × Str × Int) : Prop := (0 ≤ p.1 ∧ p.1 ≤ 200 - 1) ∧ (0 ≤ p.2.2 ∧ p.2.2 ≤ 200 - 1) ∧ (p.2.1 = "@" ∨ p.2.1 = "a" ∨ p.2.1 = "b")
theorem rk_lt {c : Str} : 0 ≤ rk c ∧ rk c ≤ 2 := by unfold rk; split <;> (try split) <;> omega
theorem s01 : W.dataLt (.str "@") (.str "a") = true := by decide +kernel
theorem s02 : W.dataLt (.str "@") (.str "b") = true := by decide +kernel
theorem s12 : W.dataLt (.str "a") (.str "b") = true := by decide +kernel
theorem code_lt {p q : Int × Str × Int} (hp : val p) (hq : val q) (h : code p < code q) : W.dataLt (.tuple [.int p.1, .str p.2.1]) (.tuple [.int q.1, .str q.2.1]) = true := by
  rw [W.dataLt_pair rfl rfl]
  have h1 := rk_lt (c := p.2.1)
  have h2 := rk_lt (c := q.2.1)
  unfold code at h
  by_cases e : p.1 = q.1
  · have hlt : rk p.2.1 < rk q.2.1 := by omega
    rw [if_pos (show PyData.eqv (.int p.1) (.int q.1) = true from by show (p.1 == q.1) = true; simpa using e)]
    obtain ⟨_, _, hc⟩ := hp
    obtain ⟨_, _, hd⟩ := hq
    rcases hc with hc | hc | hc <;> rcases hd with hd | hd | hd <;> rw [hc, hd] at hlt ⊢ <;> first
      | (exfalso; revert hlt; decide +kernel)
      | (decide +kernel)
  · rw [if_neg (show ¬ PyData.eqv (.int p.1) (.int q.1) = true from by show ¬ (p.1 == q.1) = true; simpa using e), W.dataLt_int]
    exact decide_eq_true (by omega)
structure Bld (B : Int) (rs : List (Int × Str × Int)) : Prop where
  v : ∀ p ∈ rs, val p ∧ code p < B
  a : ∀ (i : Nat) (p q : Int × Str × Int), rs[i]? = some p → rs[i + 1]? = some q → code p < code q
theorem Bld.up {B B' : Int} {rs : List (Int × Str × Int)} (h : Bld B rs) (hb : B ≤ B') : Bld B' rs := ⟨fun p hp => ⟨(h.v p hp).1, by have := (h.v p hp).2; omega⟩, h.a⟩
theorem Bld.snoc {B : Int} {rs : List (Int × Str × Int)} {p : Int × Str × Int} (h : Bld B rs) (hv : val p) (hc : code p = B) : Bld (B + 1) (rs ++ [p]) := by
  refine ⟨fun q hq => ?_, fun i a b ha hb => ?_⟩
  · rcases List.mem_append.mp hq with e | e
    · exact ⟨(h.v q e).1, by have := (h.v q e).2; omega⟩
    · cases List.mem_singleton.mp e; exact ⟨hv, by omega⟩
  · by_cases hi : i + 1 < rs.length
    · rw [List.getElem?_append_left (by omega)] at ha
      rw [List.getElem?_append_left hi] at hb
      exact h.a i a b ha hb
    · by_cases hi2 : i + 1 = rs.length
      · rw [List.getElem?_append_left (by omega)] at ha
        rw [List.getElem?_append_right (by omega), hi2, Nat.sub_self] at hb
        cases hb
        have := (h.v a (List.mem_of_getElem? ha)).2
        omega
      · rw [List.getElem?_eq_none (by simp; omega)] at hb; cases hb
theorem Bld.rd {B : Int} {rs : List (Int × Str × Int)} {gs : List Int} (h : Bld B rs) (hg : ∀ g ∈ gs, 0 ≤ g ∧ g ≤ 200 - 1) (hi : ∀ (i : Nat) (a b : Int), gs[i]? = some a → gs[i + 1]? = some b → a < b) : RdOk rs gs :=
  ⟨fun p hp => (h.v p hp).1, fun i p q hp hq => code_lt (h.v p (List.mem_of_getElem? hp)).1 (h.v q (List.mem_of_getElem? hq)).1 (h.a i p q hp hq), hg, hi⟩
theorem P_next : tx.txt.prim "_law_next" = some nextP := rfl
theorem h_next (n : Nat) : (tx.txt.env n).has "_law_next" = true := rfl
theorem isOl_ol (xs : List PyData) : isOl (.ol xs) = true := rfl
theorem app_ok {xs : List PyData} {y : PyData} (h : xs.length ≤ 500) : appV (.ol xs) [y] = some (.ol (xs ++ [y])) := by
  show (if fits (xs.length + 1) then some (Val.ol (xs ++ [y])) else none) = _
  rw [if_pos (fits_of (by omega))]
theorem fits3 : decide (3 ≤ sizeLine) = true := by decide
/-- one sign of one state -/
theorem sr_step (k : Nat) (w i : Int) (c : Str) (hc : c = "@" ∨ c = "a" ∨ c = "b") (hw : 0 < w ∧ w ≤ 100) (hi : 0 ≤ i ∧ i < w) (rs : List (Int × Str × Int)) (hr : Bld (3 * i + rk c) rs) (hl : rs.length ≤ 500) (d : Draw) (b : Nat) (hd : Bd d (b + 2)) (x4 : Option Val) :
    ∃ rs' d', forStep (tx.txt.env (k + 1)) (.nm 4 "sign") f_law_some_reader_for2 (.str c) ⟨[some .drw, some (.d (.int w)), some (.ol (rs.map ruleOf)), some (.d (.int i)), x4], some d⟩ = .ok .nx ⟨[some .drw, some (.d (.int w)), some (.ol (rs'.map ruleOf)), some (.d (.int i)), some (.d (.str c))], some d'⟩ ∧ Bld (3 * i + rk c + 1) rs' ∧ rs'.length ≤ rs.length + 1 ∧ Bd d' b := by
  obtain ⟨v, d1, e1, v0, v1, b1⟩ := next_ok (T := tx.txt) (k := k) P_next (n := b + 1) hd (w := 4) (by decide) (by decide)
  unfold forStep
  by_cases hv : 0 < v
  · obtain ⟨t, d2, e2, t0, t1, b2⟩ := next_ok (T := tx.txt) (k := k) P_next (n := b) b1 (w := w) hw.1 (by omega)
    refine ⟨rs ++ [(i, c, t)], d2, ?_, hr.snoc ⟨⟨hi.1, by show i ≤ _; omega⟩, ⟨t0, by show t ≤ _; omega⟩, hc⟩ rfl, by simp, b2⟩
    have ap : appV (.ol (rs.map ruleOf)) [.tuple [.int i, .str c, .int t]] = some (.ol (rs.map ruleOf ++ [.tuple [.int i, .str c, .int t]])) := app_ok (by rw [List.length_map]; exact hl)
    simp only [xs_cons, xs_nil, x_asg, x_ex, x_ret, x_retV, x_ret0, x_ite, x_tr, r_var, r_use, r_int, r_str, r_bl, r_non, r_glob, r_tup, r_lst, r_bin, r_neg, r_not, r_cmp, r_cmp2, r_and1, r_and2, r_and, r_or1, r_or2, r_or, r_ite, r_ix, r_o0, r_oi, r_on, r_sl, r_bi, r_b0, r_b1, r_s0, r_s1, r_isi, r_te, r_tand, r_tor, r_tnot, r_ta0, r_ta1, r_to0, r_to1, bnd_ok, bnd_er, br_t, br_f, ofO_some, slotO_ok, useO_d, useO_drw, useO_scr, useO_ol, useO_od, boolO_ok, callO_ok, callO_er, a_nm, a_tp1, a_tp2, a_tp3, a_tp4, flw_nx, flw_rt, flw_bk, flw_ct, fin_rt, fin_nx, fin_er, tr_ok, tr_er, List.getElem?_cons_zero, List.getElem?_cons_succ, List.set_cons_zero, List.set_cons_succ, List.length_cons, List.length_nil, Option.map_some, Bool.not_true, Bool.not_false, setO_k, frz_d, frz_ol, frz_drw, frz_scr, getD_d, getD_ol, f_law_some_reader_for2, r_call _ _ _ _ _ (h_next _), fns_of, e1, e2, c_gt, decide_eq_true hv, x_app, isOl_ol, datas, fits, fits3, if_true, ap, Nat.reduceAdd, Nat.reduceLT, decide_true]
    rw [List.map_append]; rfl
  · refine ⟨rs, d1, ?_, hr.up (by omega), by omega, ⟨b1.lo, by have := b1.hi; omega⟩⟩
    simp only [xs_cons, xs_nil, x_asg, x_ex, x_ret, x_retV, x_ret0, x_ite, x_tr, r_var, r_use, r_int, r_str, r_bl, r_non, r_glob, r_tup, r_lst, r_bin, r_neg, r_not, r_cmp, r_cmp2, r_and1, r_and2, r_and, r_or1, r_or2, r_or, r_ite, r_ix, r_o0, r_oi, r_on, r_sl, r_bi, r_b0, r_b1, r_s0, r_s1, r_isi, r_te, r_tand, r_tor, r_tnot, r_ta0, r_ta1, r_to0, r_to1, bnd_ok, bnd_er, br_t, br_f, ofO_some, slotO_ok, useO_d, useO_drw, useO_scr, useO_ol, useO_od, boolO_ok, callO_ok, callO_er, a_nm, a_tp1, a_tp2, a_tp3, a_tp4, flw_nx, flw_rt, flw_bk, flw_ct, fin_rt, fin_nx, fin_er, tr_ok, tr_er, List.getElem?_cons_zero, List.getElem?_cons_succ, List.set_cons_zero, List.set_cons_succ, List.length_cons, List.length_nil, Option.map_some, Bool.not_true, Bool.not_false, setO_k, frz_d, frz_ol, frz_drw, frz_scr, getD_d, getD_ol, f_law_some_reader_for2, r_call _ _ _ _ _ (h_next _), fns_of, e1, c_gt, decide_eq_false hv, Nat.reduceAdd, Nat.reduceLT, decide_true]
end K07

set_option Elab.async false
set_option linter.all false
set_option maxRecDepth 100000
set_option maxHeartbeats 4000000
namespace K07
open PySem Mini
theorem _root_.Mini.Bd.le {d : Draw} {a b : Nat} (h : Bd d a) (hb : b ≤ a) : Bd d b := ⟨h.lo, by have := h.hi; omega⟩
theorem rng_get {w : Int} {i : Nat} {x : PyData} (h : (rngL 0 w)[i]? = some x) : x = .int (i : Int) ∧ (i : Int) < w := by
  unfold rngL at h
  rw [List.getElem?_map] at h
  obtain ⟨k, e1, rfl⟩ := Option.map_eq_some_iff.mp h
  rw [List.getElem?_eq_some_iff] at e1
  obtain ⟨h1, e1⟩ := e1
  simp at e1 h1
  subst e1
  exact ⟨by simp, by omega⟩
theorem rng_len (w : Int) : (rngL 0 w).length = w.toNat := by unfold rngL; rw [List.length_map, List.length_range]; simp
theorem rngV_ok {w : Int} (h : 0 ≤ w ∧ w ≤ 1000) : rngV (.d (.int w)) = some (rngL 0 w) := by
  show (if rngOk w then some (rngL 0 w) else none) = _
  rw [if_pos]
  unfold rngOk
  simp only [Bool.and_eq_true, decide_eq_true_eq]
  omega
theorem sr_state (k : Nat) (w i : Int) (hw : 0 < w ∧ w ≤ 100) (hi : 0 ≤ i ∧ i < w) (rs : List (Int × Str × Int)) (hr : Bld (3 * i) rs) (hl : rs.length ≤ 400) (d : Draw) (b : Nat) (hd : Bd d (b + 6)) (x3 x4 : Option Val) :
    ∃ rs' d' y4, forStep (tx.txt.env (k + 1)) (.nm 3 "state") f_law_some_reader_for1 (.int i) ⟨[some .drw, some (.d (.int w)), some (.ol (rs.map ruleOf)), x3, x4], some d⟩ = .ok .nx ⟨[some .drw, some (.d (.int w)), some (.ol (rs'.map ruleOf)), some (.d (.int i)), y4], some d'⟩ ∧ Bld (3 * (i + 1)) rs' ∧ rs'.length ≤ rs.length + 3 ∧ Bd d' b := by
  obtain ⟨r1, d1, e1, h1, l1, b1⟩ := sr_step k w i "@" (.inl rfl) hw hi rs (by rw [show rk "@" = 0 by decide +kernel]; simpa using hr) (by omega) d (b + 4) hd x4
  obtain ⟨r2, d2, e2, h2, l2, b2⟩ := sr_step k w i "a" (.inr (.inl rfl)) hw hi r1 (by rw [show rk "a" = 1 by decide +kernel]; rw [show rk "@" = 0 by decide +kernel] at h1; simpa using h1) (by omega) d1 (b + 2) b1 (some (.d (.str "@")))
  obtain ⟨r3, d3, e3, h3, l3, b3⟩ := sr_step k w i "b" (.inr (.inr rfl)) hw hi r2 (by rw [show rk "b" = 2 by decide +kernel]; rw [show rk "a" = 1 by decide +kernel] at h2; exact h2.up (by omega)) (by omega) d2 b b2 (some (.d (.str "a")))
  refine ⟨r3, d3, some (.d (.str "b")), ?_, by rw [show rk "b" = 2 by decide +kernel] at h3; exact h3.up (by omega), by omega, b3⟩
  have iv : itemsV (.d (.str "@ab")) = some [.str "@", .str "a", .str "b"] := rfl
  have fn : ∀ (st : PyData → M Flw) s, forGo st [] s = .ok .nx s := fun _ _ => rfl
  have go : forGo (forStep (tx.txt.env (k + 1)) (.nm 4 "sign") f_law_some_reader_for2) [.str "@", .str "a", .str "b"] ⟨[some .drw, some (.d (.int w)), some (.ol (rs.map ruleOf)), some (.d (.int i)), x4], some d⟩ = .ok .nx ⟨[some .drw, some (.d (.int w)), some (.ol (r3.map ruleOf)), some (.d (.int i)), some (.d (.str "b"))], some d3⟩ := by
    rw [for_cons, e1]
    simp only [bnd_ok, loop_nx]
    rw [for_cons, e2]
    simp only [bnd_ok, loop_nx]
    rw [for_cons, e3]
    simp only [bnd_ok, loop_nx, fn]
  show (asgT (.nm 3 "state") (.d (.int i)) _).bnd (fun _ s => execs _ f_law_some_reader_for1 s) = _
  simp only [xs_cons, xs_nil, x_asg, x_ex, x_ret, x_retV, x_ret0, x_ite, x_tr, r_var, r_use, r_int, r_str, r_bl, r_non, r_glob, r_tup, r_lst, r_bin, r_neg, r_not, r_cmp, r_cmp2, r_and1, r_and2, r_and, r_or1, r_or2, r_or, r_ite, r_ix, r_o0, r_oi, r_on, r_sl, r_bi, r_b0, r_b1, r_s0, r_s1, r_isi, r_te, r_tand, r_tor, r_tnot, r_ta0, r_ta1, r_to0, r_to1, bnd_ok, bnd_er, br_t, br_f, ofO_some, slotO_ok, useO_d, useO_drw, useO_scr, useO_ol, useO_od, boolO_ok, callO_ok, callO_er, a_nm, a_tp1, a_tp2, a_tp3, a_tp4, flw_nx, flw_rt, flw_bk, flw_ct, fin_rt, fin_nx, fin_er, tr_ok, tr_er, List.getElem?_cons_zero, List.getElem?_cons_succ, List.set_cons_zero, List.set_cons_succ, List.length_cons, List.length_nil, Option.map_some, Bool.not_true, Bool.not_false, setO_k, frz_d, frz_ol, frz_drw, frz_scr, getD_d, getD_ol, f_law_some_reader_for1, x_for, i_plv, iv, go, Nat.reduceAdd, Nat.reduceLT, decide_true]
theorem sr_good (k : Nat) (w : Int) (hw : 0 < w ∧ w ≤ 100) (x2 x3 x4 : Option Val) (hx : freeSlots [3] [some .drw, some (.d (.int w)), x2, x3, x4] = true) (d : Draw) (b : Nat) (hd : Bd d (b + w.toNat)) :
    ∃ (gs : List Int) (d' : Draw), ev (tx.txt.env (k + 1)) (.lc [("state", 3)] (.nm 3 "state") (.rng1 (.var 1 "many")) (.cons (.e (.cmp .eq (.call "_law_next" (.cons (.var 0 "m") (.cons (.int 3) .nil))) (.int 0))) .nil) (.var 3 "state")) false ⟨[some .drw, some (.d (.int w)), x2, x3, x4], some d⟩ = .ok (.ol (gs.map PyData.int)) ⟨[some .drw, some (.d (.int w)), x2, x3, x4], some d'⟩ ∧ (∀ g ∈ gs, 0 ≤ g ∧ g ≤ 200 - 1) ∧ (∀ (i : Nat) (a b : Int), gs[i]? = some a → gs[i + 1]? = some b → a < b) ∧ Bd d' b := by
  have hi : evi (tx.txt.env (k + 1)) (.rng1 (.var 1 "many")) ⟨[some .drw, some (.d (.int w)), x2, x3, x4], some d⟩ = .ok (rngL 0 w) ⟨[some .drw, some (.d (.int w)), x2, x3, x4], some d⟩ := by
    simp only [xs_cons, xs_nil, x_asg, x_ex, x_ret, x_retV, x_ret0, x_ite, x_tr, r_var, r_use, r_int, r_str, r_bl, r_non, r_glob, r_tup, r_lst, r_bin, r_neg, r_not, r_cmp, r_cmp2, r_and1, r_and2, r_and, r_or1, r_or2, r_or, r_ite, r_ix, r_o0, r_oi, r_on, r_sl, r_bi, r_b0, r_b1, r_s0, r_s1, r_isi, r_te, r_tand, r_tor, r_tnot, r_ta0, r_ta1, r_to0, r_to1, bnd_ok, bnd_er, br_t, br_f, ofO_some, slotO_ok, useO_d, useO_drw, useO_scr, useO_ol, useO_od, boolO_ok, callO_ok, callO_er, a_nm, a_tp1, a_tp2, a_tp3, a_tp4, flw_nx, flw_rt, flw_bk, flw_ct, fin_rt, fin_nx, fin_er, tr_ok, tr_er, List.getElem?_cons_zero, List.getElem?_cons_succ, List.set_cons_zero, List.set_cons_succ, List.length_cons, List.length_nil, Option.map_some, Bool.not_true, Bool.not_false, setO_k, frz_d, frz_ol, frz_drw, frz_scr, getD_d, getD_ol, i_rng, rngV_ok (w := w) (by omega)]
  obtain ⟨ys, dr', e, gs, d', rfl, rfl, g1, g2, g3, g4⟩ := ev_lcI (Γ := tx.txt.env (k + 1)) (own := [("state", 3)]) (tg := .nm 3 "state") (ts := .cons (.e (.cmp .eq (.call "_law_next" (.cons (.var 0 "m") (.cons (.int 3) .nil))) (.int 0))) .nil) (elt := .var 3 "state") (m := false)
    (fun i acc dr => ∃ (gs : List Int) (d : Draw), acc = gs.map PyData.int ∧ dr = some d ∧ (∀ g ∈ gs, 0 ≤ g ∧ g < (i : Int)) ∧ (∀ (i : Nat) (a b : Int), gs[i]? = some a → gs[i + 1]? = some b → a < b) ∧ gs.length ≤ i ∧ Bd d (b + (w.toNat - i))) hi hx ⟨[], d, rfl, rfl, (fun g hg => nomatch hg), (fun i a b ha _ => by simp at ha), Nat.le_refl _, hd⟩ (by
    rintro i x acc dr hx ⟨gs, d, rfl, rfl, g1, g2, g3, g4⟩
    obtain ⟨rfl, hlt⟩ := rng_get hx
    have hz : (200 : Nat) ≤ sizeLine := by decide
    refine ⟨by rw [List.length_map]; omega, ?_⟩
    obtain ⟨v, d1, e1, v0, v1, b1⟩ := next_ok (T := tx.txt) (k := k) P_next (n := b + (w.toNat - (i + 1))) (g4.le (by omega)) (w := 3) (by decide) (by decide)
    refine ⟨if v == 0 then some (.int (i : Int)) else none, [some .drw, some (.d (.int w)), x2, some (.d (.int (i : Int))), x4], some d1, rfl, ?_, ?_⟩
    · show lcBody _ _ _ _ _ ⟨[some .drw, some (.d (.int w)), x2, none, x4], some d⟩ = _
      unfold lcBody
      simp only [xs_cons, xs_nil, x_asg, x_ex, x_ret, x_retV, x_ret0, x_ite, x_tr, r_var, r_use, r_int, r_str, r_bl, r_non, r_glob, r_tup, r_lst, r_bin, r_neg, r_not, r_cmp, r_cmp2, r_and1, r_and2, r_and, r_or1, r_or2, r_or, r_ite, r_ix, r_o0, r_oi, r_on, r_sl, r_bi, r_b0, r_b1, r_s0, r_s1, r_isi, r_te, r_tand, r_tor, r_tnot, r_ta0, r_ta1, r_to0, r_to1, bnd_ok, bnd_er, br_t, br_f, ofO_some, slotO_ok, useO_d, useO_drw, useO_scr, useO_ol, useO_od, boolO_ok, callO_ok, callO_er, a_nm, a_tp1, a_tp2, a_tp3, a_tp4, flw_nx, flw_rt, flw_bk, flw_ct, fin_rt, fin_nx, fin_er, tr_ok, tr_er, List.getElem?_cons_zero, List.getElem?_cons_succ, List.set_cons_zero, List.set_cons_succ, List.length_cons, List.length_nil, Option.map_some, Bool.not_true, Bool.not_false, setO_k, frz_d, frz_ol, frz_drw, frz_scr, getD_d, getD_ol, r_call _ _ _ _ _ (h_next _), fns_of, e1, c_eq, Nat.reduceAdd, Nat.reduceLT, decide_true]
      cases (v == 0) with
      | true => simp only [xs_cons, xs_nil, x_asg, x_ex, x_ret, x_retV, x_ret0, x_ite, x_tr, r_var, r_use, r_int, r_str, r_bl, r_non, r_glob, r_tup, r_lst, r_bin, r_neg, r_not, r_cmp, r_cmp2, r_and1, r_and2, r_and, r_or1, r_or2, r_or, r_ite, r_ix, r_o0, r_oi, r_on, r_sl, r_bi, r_b0, r_b1, r_s0, r_s1, r_isi, r_te, r_tand, r_tor, r_tnot, r_ta0, r_ta1, r_to0, r_to1, bnd_ok, bnd_er, br_t, br_f, ofO_some, slotO_ok, useO_d, useO_drw, useO_scr, useO_ol, useO_od, boolO_ok, callO_ok, callO_er, a_nm, a_tp1, a_tp2, a_tp3, a_tp4, flw_nx, flw_rt, flw_bk, flw_ct, fin_rt, fin_nx, fin_er, tr_ok, tr_er, List.getElem?_cons_zero, List.getElem?_cons_succ, List.set_cons_zero, List.set_cons_succ, List.length_cons, List.length_nil, Option.map_some, Bool.not_true, Bool.not_false, setO_k, frz_d, frz_ol, frz_drw, frz_scr, getD_d, getD_ol, if_true]
      | false => simp only [xs_cons, xs_nil, x_asg, x_ex, x_ret, x_retV, x_ret0, x_ite, x_tr, r_var, r_use, r_int, r_str, r_bl, r_non, r_glob, r_tup, r_lst, r_bin, r_neg, r_not, r_cmp, r_cmp2, r_and1, r_and2, r_and, r_or1, r_or2, r_or, r_ite, r_ix, r_o0, r_oi, r_on, r_sl, r_bi, r_b0, r_b1, r_s0, r_s1, r_isi, r_te, r_tand, r_tor, r_tnot, r_ta0, r_ta1, r_to0, r_to1, bnd_ok, bnd_er, br_t, br_f, ofO_some, slotO_ok, useO_d, useO_drw, useO_scr, useO_ol, useO_od, boolO_ok, callO_ok, callO_er, a_nm, a_tp1, a_tp2, a_tp3, a_tp4, flw_nx, flw_rt, flw_bk, flw_ct, fin_rt, fin_nx, fin_er, tr_ok, tr_er, List.getElem?_cons_zero, List.getElem?_cons_succ, List.set_cons_zero, List.set_cons_succ, List.length_cons, List.length_nil, Option.map_some, Bool.not_true, Bool.not_false, setO_k, frz_d, frz_ol, frz_drw, frz_scr, getD_d, getD_ol, if_false, Bool.false_eq_true]
    · cases (v == 0) with
      | false => exact ⟨gs, d1, by simp, rfl, fun g hg => ⟨(g1 g hg).1, by have := (g1 g hg).2; omega⟩, g2, by omega, b1⟩
      | true =>
        refine ⟨gs ++ [(i : Int)], d1, by simp, rfl, fun g hg => ?_, fun j a c ha hc => ?_, by simp; omega, b1⟩
        · rcases List.mem_append.mp hg with q | q
          · exact ⟨(g1 g q).1, by have := (g1 g q).2; omega⟩
          · cases List.mem_singleton.mp q; exact ⟨by omega, by omega⟩
        · by_cases h1 : j + 1 < gs.length
          · rw [List.getElem?_append_left (by omega)] at ha
            rw [List.getElem?_append_left h1] at hc
            exact g2 j a c ha hc
          · by_cases h2 : j + 1 = gs.length
            · rw [List.getElem?_append_left (by omega)] at ha
              rw [List.getElem?_append_right (by omega), h2, Nat.sub_self] at hc
              cases hc
              exact (g1 a (List.mem_of_getElem? ha)).2
            · rw [List.getElem?_eq_none (by simp; omega)] at hc; cases hc)
  refine ⟨gs, d', e, fun g hg => ⟨(g1 g hg).1, ?_⟩, g2, g4.le (by omega)⟩
  have := (g1 g hg).2
  rw [rng_len] at this
  omega
end K07

set_option Elab.async false
set_option linter.all false
set_option maxRecDepth 100000
set_option maxHeartbeats 4000000
namespace K07
open PySem Mini
theorem some_ok (k : Nat) (w : Int) (hw : 0 < w ∧ w ≤ 100) (d : Draw) (b : Nat) (hd : Bd d (b + 7 * w.toNat)) :
    ∃ rs gs d', callN tx.txt (k + 2) "_law_some_reader" [.drw, .d (.int w)] (some d) = .ok (.d (readerOf rs gs)) (some d') ∧ RdOk rs gs ∧ rs.length ≤ 300 ∧ Bd d' b := by
  obtain ⟨S', e, rs, d1, x3, x4, rfl, h1, h2, h3, h4⟩ := for_nx (Γ := tx.txt.env (k + 1)) (tg := .nm 3 "state") (b := f_law_some_reader_for1) (xs := rngL 0 w) (S := ⟨[some .drw, some (.d (.int w)), some (.ol []), none, none], some d⟩)
    (fun i S => ∃ (rs : List (Int × Str × Int)) (d : Draw) (x3 x4 : Option Val), S = ⟨[some .drw, some (.d (.int w)), some (.ol (rs.map ruleOf)), x3, x4], some d⟩ ∧ Bld (3 * (i : Int)) rs ∧ rs.length ≤ 3 * i ∧ Bd d (b + w.toNat + 6 * (w.toNat - i)) ∧ freeSlots [3] [some .drw, some (.d (.int w)), some (.ol (rs.map ruleOf)), x3, x4] = true)
    ⟨[], d, none, none, rfl, ⟨(fun p hp => nomatch hp), (fun i p q hp _ => by simp at hp)⟩, Nat.le_refl _, hd.le (by omega), rfl⟩ (by
    rintro i x S hx ⟨rs, d, x3, x4, rfl, h1, h2, h3, h4⟩
    obtain ⟨rfl, hlt⟩ := rng_get hx
    obtain ⟨rs', d', y4, e, g1, g2, g3⟩ := sr_state k w i hw ⟨by omega, hlt⟩ rs h1 (by omega) d (b + w.toNat + 6 * (w.toNat - (i + 1))) (h3.le (by omega)) x3 x4
    exact ⟨_, e, rs', d', _, _, rfl, by simpa using g1, by omega, g3, rfl⟩)
  obtain ⟨gs, d2, e2, g1, g2, g3⟩ := sr_good k w hw (some (.ol (rs.map ruleOf))) x3 x4 h4 d1 b (h3.le (by omega))
  rw [rng_len] at h2
  refine ⟨rs, gs, d2, ?_, h1.rd g1 g2, by omega, g3⟩
  rw [call_fd (fd := f_law_some_reader) rfl rfl rfl]
  show finO (execs _ f_law_some_reader_b ⟨[some .drw, some (.d (.int w)), none, none, none], some d⟩) = _
  have t1 : biV .tuple [.ol (rs.map ruleOf)] = some (.d (rulesOf rs)) := rfl
  have t2 : biV .tuple [.ol (gs.map PyData.int)] = some (.d (goodOf gs)) := rfl
  have l0 : decide (([] : List PyData).length ≤ sizeLine) = true := by decide
  simp only [xs_cons, xs_nil, x_asg, x_ex, x_ret, x_retV, x_ret0, x_ite, x_tr, r_var, r_use, r_int, r_str, r_bl, r_non, r_glob, r_tup, r_lst, r_bin, r_neg, r_not, r_cmp, r_cmp2, r_and1, r_and2, r_and, r_or1, r_or2, r_or, r_ite, r_ix, r_o0, r_oi, r_on, r_sl, r_bi, r_b0, r_b1, r_s0, r_s1, r_isi, r_te, r_tand, r_tor, r_tnot, r_ta0, r_ta1, r_to0, r_to1, bnd_ok, bnd_er, br_t, br_f, ofO_some, slotO_ok, useO_d, useO_drw, useO_scr, useO_ol, useO_od, boolO_ok, callO_ok, callO_er, a_nm, a_tp1, a_tp2, a_tp3, a_tp4, flw_nx, flw_rt, flw_bk, flw_ct, fin_rt, fin_nx, fin_er, tr_ok, tr_er, List.getElem?_cons_zero, List.getElem?_cons_succ, List.set_cons_zero, List.set_cons_succ, List.length_cons, List.length_nil, Option.map_some, Bool.not_true, Bool.not_false, setO_k, frz_d, frz_ol, frz_drw, frz_scr, getD_d, getD_ol, f_law_some_reader_b, x_for, i_rng, rngV_ok (w := w) (by omega), e, e2, t1, t2, datas, fits, fits2, l0, if_true, Nat.reduceAdd, Nat.reduceLT, decide_true, Nat.zero_le]
  rfl
end K07

set_option Elab.async false
set_option linter.all false
set_option maxRecDepth 100000
set_option maxHeartbeats 4000000
namespace K07
open PySem Mini
theorem tj (l : List Str) : Txt.join "" l = Str.join "" l := eq_of_beq (PyProof.Rows.join_closes rfl)
theorem jl : ∀ cs : List Nat, TL.joinL [] (cs.map fun c => [c]) = cs
  | [] => rfl
  | [c] => rfl
  | c :: e :: r => by
    show [c] ++ ([] ++ TL.joinL [] ((e :: r).map fun c => [c])) = _
    rw [jl (e :: r)]; rfl
theorem join_one (cs : List Nat) : Txt.join "" (cs.map fun c => (⟨#[c]⟩ : Str)) = ⟨cs.toArray⟩ := by
  have h := TL.tl_join "" (cs.map fun c => (⟨#[c]⟩ : Str))
  rw [List.map_map] at h
  have e : Str.join "" (cs.map fun c => (⟨#[c]⟩ : Str)) = ⟨(TL.tl (Str.join "" (cs.map fun c => (⟨#[c]⟩ : Str)))).toArray⟩ := by simp [TL.tl]
  rw [tj, e, h]
  have : ((cs.map ((TL.tl) ∘ fun c => (⟨#[c]⟩ : Str)))) = cs.map fun c => [c] := rfl
  rw [this]
  show Str.mk (TL.joinL [] (cs.map fun c => [c])).toArray = _
  rw [jl]
theorem one_sum : ∀ cs : List Nat, ((cs.map fun c => (⟨#[c]⟩ : Str)).map (fun x => Str.length x)).sum = cs.length
  | [] => rfl
  | c :: r => by simp only [List.map_cons, List.sum_cons, List.length_cons]; rw [one_sum r]; show 1 + _ = _; omega
theorem join_signs (cs : List Nat) (h : cs.length ≤ 100) : meV .join (.d (.str "")) [.ol (cs.map signD)] = some (.d (.str ⟨cs.toArray⟩)) := by
  rw [show cs.map signD = (cs.map fun c => (⟨#[c]⟩ : Str)).map PyData.str by rw [List.map_map]; rfl]
  show (match allStrs ((cs.map fun c => (⟨#[c]⟩ : Str)).map PyData.str) with | some (ys : List Str) => if decide ((ys.map (fun x => Str.length x)).sum + ys.length * (("" : Str)).length ≤ 16777216) then some (Mini.str (Txt.join "" ys)) else none | none => none) = _
  rw [all_strs]
  show (if decide (((cs.map fun c => (⟨#[c]⟩ : Str)).map (fun x => Str.length x)).sum + (cs.map fun c => (⟨#[c]⟩ : Str)).length * (("" : Str)).length ≤ 16777216) then some (Mini.str (Txt.join "" (cs.map fun c => (⟨#[c]⟩ : Str)))) else none) = _
  rw [one_sum, if_pos, join_one]
  · rfl
  · rw [List.length_map, decide_eq_true_eq]
    show cs.length + cs.length * 0 ≤ _
    omega
theorem add_end (cs : List Nat) (h : cs.length ≤ 100) : binV .add (.d (.str ⟨cs.toArray⟩)) (.d (.str ";")) = some (.d (.str (lineOf cs))) := by
  rw [b_str]
  · congr 3
    show Str.mk (cs.toArray ++ #[59]) = _
    unfold lineOf
    simp
  · show cs.toArray.size + 1 ≤ _
    simp; omega
/-! the marks that are drawn -/
def mkOk (M : Str) : Prop := M = "@" ∨ M = "A" ∨ M = "H" ∨ M = "AB" ∨ M = "@A"
def mkL : List PyData := [.str "@", .str "A", .str "H", .str "AB", .str "@A"]
theorem mk_get {v : Int} (h0 : 0 ≤ v) (h1 : v < 5) : ∃ M, mkOk M ∧ ixD (.ol mkL) (.int v) = some (.str M) := by
  have : v = 0 ∨ v = 1 ∨ v = 2 ∨ v = 3 ∨ v = 4 := by omega
  rcases this with rfl | rfl | rfl | rfl | rfl
  · exact ⟨"@", .inl rfl, rfl⟩
  · exact ⟨"A", .inr (.inl rfl), rfl⟩
  · exact ⟨"H", .inr (.inr (.inl rfl)), rfl⟩
  · exact ⟨"AB", .inr (.inr (.inr (.inl rfl))), rfl⟩
  · exact ⟨"@A", .inr (.inr (.inr (.inr rfl))), rfl⟩
theorem mk_len {M : Str} (h : mkOk M) : (M.length = 1 ∨ M.length = 2) ∧ biV .len [.d (.str M)] = some (.d (.int (M.length : Nat))) ∧ binV .add (.d (.str "ab")) (.d (.str M)) = some (.d (.str ("ab" ++ M))) := by
  rcases h with rfl | rfl | rfl | rfl | rfl <;> exact ⟨by decide +kernel, by rfl, by rfl⟩
theorem mk_sign {M : Str} (h : mkOk M) {v : Int} (h0 : 0 ≤ v) (h1 : v < 2 + (M.length : Nat)) : ∃ c, Lt c ∧ ixD (.d (.str ("ab" ++ M))) (.int v) = some (signD c) := by
  have hv : v = 0 ∨ v = 1 ∨ v = 2 ∨ (v = 3 ∧ M.length = 2) := by
    have := (mk_len h).1
    omega
  rcases h with rfl | rfl | rfl | rfl | rfl
  · rcases hv with rfl | rfl | rfl | ⟨rfl, z⟩
    · exact ⟨97, .inl rfl, by rfl⟩
    · exact ⟨98, .inr (.inl rfl), by rfl⟩
    · exact ⟨64, .inr (.inr (.inl rfl)), by rfl⟩
    · exact absurd z (by decide +kernel)
  · rcases hv with rfl | rfl | rfl | ⟨rfl, z⟩
    · exact ⟨97, .inl rfl, by rfl⟩
    · exact ⟨98, .inr (.inl rfl), by rfl⟩
    · exact ⟨65, .inr (.inr (.inr (.inl rfl))), by rfl⟩
    · exact absurd z (by decide +kernel)
  · rcases hv with rfl | rfl | rfl | ⟨rfl, z⟩
    · exact ⟨97, .inl rfl, by rfl⟩
    · exact ⟨98, .inr (.inl rfl), by rfl⟩
    · exact ⟨72, .inr (.inr (.inr (.inr (.inl rfl)))), by rfl⟩
    · exact absurd z (by decide +kernel)
  · rcases hv with rfl | rfl | rfl | ⟨rfl, z⟩
    · exact ⟨97, .inl rfl, by rfl⟩
    · exact ⟨98, .inr (.inl rfl), by rfl⟩
    · exact ⟨65, .inr (.inr (.inr (.inl rfl))), by rfl⟩
    · exact ⟨66, .inr (.inr (.inr (.inr (.inr rfl)))), by rfl⟩
  · rcases hv with rfl | rfl | rfl | ⟨rfl, z⟩
    · exact ⟨97, .inl rfl, by rfl⟩
    · exact ⟨98, .inr (.inl rfl), by rfl⟩
    · exact ⟨64, .inr (.inr (.inl rfl)), by rfl⟩
    · exact ⟨65, .inr (.inr (.inr (.inl rfl))), by rfl⟩
end K07

set_option Elab.async false
set_option linter.all false
set_option maxRecDepth 100000
set_option maxHeartbeats 4000000
namespace K07
open PySem Mini
theorem lw_text (x0 x2 x3 x4 x7 x8 x9 : Option Val) (M : Str) (hM : mkOk M) (d : Draw) (b : Nat) (hd : Bd d (b + 10)) :
    ∃ (cs : List Nat) (d' : Draw), ev (tx.txt.env 5) (.lc [("j", 6)] (.nm 6 "j") (.rng1 (.call "_law_next" (.cons (.var 1 "m") (.cons (.int 9) .nil)))) .nil (.ix (.bin .add (.str "ab") (.var 5 "marks")) (.call "_law_next" (.cons (.var 1 "m") (.cons (.bin .add (.int 2) (.bi .len (.cons (.var 5 "marks") .nil))) .nil))))) false ⟨[x0, some .drw, x2, x3, x4, some (.d (.str M)), none, x7, x8, x9], some d⟩ = .ok (.ol (cs.map signD)) ⟨[x0, some .drw, x2, x3, x4, some (.d (.str M)), none, x7, x8, x9], some d'⟩ ∧ (∀ c ∈ cs, Lt c) ∧ cs.length ≤ 9 ∧ Bd d' b := by
  obtain ⟨v, d1, e1, v0, v1, b1⟩ := next_ok (T := tx.txt) (k := 4) P_next (n := b + 9) hd (w := 9) (by decide) (by decide)
  have hi : evi (tx.txt.env 5) (.rng1 (.call "_law_next" (.cons (.var 1 "m") (.cons (.int 9) .nil)))) ⟨[x0, some .drw, x2, x3, x4, some (.d (.str M)), none, x7, x8, x9], some d⟩ = .ok (rngL 0 v) ⟨[x0, some .drw, x2, x3, x4, some (.d (.str M)), none, x7, x8, x9], some d1⟩ := by
    simp only [xs_cons, xs_nil, x_asg, x_ex, x_ret, x_retV, x_ret0, x_ite, x_tr, r_var, r_use, r_int, r_str, r_bl, r_non, r_glob, r_tup, r_lst, r_bin, r_neg, r_not, r_cmp, r_cmp2, r_and1, r_and2, r_and, r_or1, r_or2, r_or, r_ite, r_ix, r_o0, r_oi, r_on, r_sl, r_bi, r_b0, r_b1, r_s0, r_s1, r_isi, r_te, r_tand, r_tor, r_tnot, r_ta0, r_ta1, r_to0, r_to1, bnd_ok, bnd_er, br_t, br_f, ofO_some, slotO_ok, useO_d, useO_drw, useO_scr, useO_ol, useO_od, boolO_ok, callO_ok, callO_er, a_nm, a_tp1, a_tp2, a_tp3, a_tp4, flw_nx, flw_rt, flw_bk, flw_ct, fin_rt, fin_nx, fin_er, tr_ok, tr_er, List.getElem?_cons_zero, List.getElem?_cons_succ, List.set_cons_zero, List.set_cons_succ, List.length_cons, List.length_nil, Option.map_some, Bool.not_true, Bool.not_false, setO_k, frz_d, frz_ol, frz_drw, frz_scr, getD_d, getD_ol, i_rng, r_call _ _ _ _ _ (h_next _), fns_of, e1, rngV_ok (w := v) (by omega)]
  obtain ⟨l1, l2, l3⟩ := mk_len hM
  obtain ⟨ys, dr', e, cs, d', rfl, rfl, g1, g2, g3⟩ := ev_lcI (Γ := tx.txt.env 5) (own := [("j", 6)]) (tg := .nm 6 "j") (ts := .nil) (elt := .ix (.bin .add (.str "ab") (.var 5 "marks")) (.call "_law_next" (.cons (.var 1 "m") (.cons (.bin .add (.int 2) (.bi .len (.cons (.var 5 "marks") .nil))) .nil)))) (m := false)
    (fun i acc dr => ∃ (cs : List Nat) (d : Draw), acc = cs.map signD ∧ dr = some d ∧ (∀ c ∈ cs, Lt c) ∧ cs.length = i ∧ Bd d (b + (9 - i))) hi rfl ⟨[], d1, rfl, rfl, (fun g hg => nomatch hg), rfl, b1⟩ (by
    rintro i x acc dr hx ⟨cs, d, rfl, rfl, g1, g2, g3⟩
    obtain ⟨rfl, hlt⟩ := rng_get hx
    have hz : (200 : Nat) ≤ sizeLine := by decide
    refine ⟨by rw [List.length_map]; omega, ?_⟩
    obtain ⟨u, d2, e2, u0, u1, b2⟩ := next_ok (T := tx.txt) (k := 4) P_next (n := b + (9 - (i + 1))) (g3.le (by omega)) (w := 2 + (M.length : Nat)) (by omega) (by omega)
    obtain ⟨c, hc, ec⟩ := mk_sign hM u0 u1
    refine ⟨some (signD c), [x0, some .drw, x2, x3, x4, some (.d (.str M)), some (.d (.int (i : Int))), x7, x8, x9], some d2, rfl, ?_, ?_⟩
    · show lcBody _ _ _ _ _ ⟨[x0, some .drw, x2, x3, x4, some (.d (.str M)), none, x7, x8, x9], some d⟩ = _
      unfold lcBody
      simp only [xs_cons, xs_nil, x_asg, x_ex, x_ret, x_retV, x_ret0, x_ite, x_tr, r_var, r_use, r_int, r_str, r_bl, r_non, r_glob, r_tup, r_lst, r_bin, r_neg, r_not, r_cmp, r_cmp2, r_and1, r_and2, r_and, r_or1, r_or2, r_or, r_ite, r_ix, r_o0, r_oi, r_on, r_sl, r_bi, r_b0, r_b1, r_s0, r_s1, r_isi, r_te, r_tand, r_tor, r_tnot, r_ta0, r_ta1, r_to0, r_to1, bnd_ok, bnd_er, br_t, br_f, ofO_some, slotO_ok, useO_d, useO_drw, useO_scr, useO_ol, useO_od, boolO_ok, callO_ok, callO_er, a_nm, a_tp1, a_tp2, a_tp3, a_tp4, flw_nx, flw_rt, flw_bk, flw_ct, fin_rt, fin_nx, fin_er, tr_ok, tr_er, List.getElem?_cons_zero, List.getElem?_cons_succ, List.set_cons_zero, List.set_cons_succ, List.length_cons, List.length_nil, Option.map_some, Bool.not_true, Bool.not_false, setO_k, frz_d, frz_ol, frz_drw, frz_scr, getD_d, getD_ol, r_call _ _ _ _ _ (h_next _), fns_of, l2, l3, b_add, e2, ec, d_dat, Nat.reduceAdd, Nat.reduceLT, decide_true]
    · exact ⟨cs ++ [c], d2, by simp, rfl, fun q hq => by
        rcases List.mem_append.mp hq with z | z
        · exact g1 q z
        · cases List.mem_singleton.mp z; exact hc, by simp [g2], b2⟩)
  rw [rng_len] at g2
  exact ⟨cs, d', e, g1, by omega, g3.le (by omega)⟩
theorem h_taken (n : Nat) : (tx.txt.env n).has "_law_is_taken" = true := rfl
theorem h_ref (n : Nat) : (tx.txt.env n).has "_law_is_refused" = true := rfl
theorem h_some (n : Nat) : (tx.txt.env n).has "_law_some_reader" = true := rfl
theorem h_begun (n : Nat) : (tx.txt.env n).has "_law_begun" = true := rfl
theorem repr_b (b : Bool) : ∃ z, biV .repr [.d (.bool b)] = some (.d (.str z)) ∧ cmpV .ne (.d (.str z)) (.d (.str z)) = some false := by
  cases b
  · exact ⟨"False", by kernel_rfl, by decide +kernel⟩
  · exact ⟨"True", by kernel_rfl, by decide +kernel⟩
theorem fits5 : decide (5 ≤ sizeLine) = true := by decide
theorem lw_for2 (x0 x2 x4 x5 x7 x8 x9 : Option Val) (rs : List (Int × Str × Int)) (gs : List Int) (ok : RdOk rs gs) (hr : rs.length ≤ 300) (y : PyData) (d : Draw) (b : Nat) (hd : Bd d (b + 11)) :
    ∃ y5 z7 d', forStep (tx.txt.env 5) (.nm 4 "k") f_law_for2 y ⟨[x0, some .drw, x2, some (.d (readerOf rs gs)), x4, x5, none, x7, x8, x9], some d⟩ = .ok .nx ⟨[x0, some .drw, x2, some (.d (readerOf rs gs)), some (.d y), y5, none, some (.d z7), x8, x9], some d'⟩ ∧ Bd d' b := by
  obtain ⟨v, d1, e1, v0, v1, b1⟩ := next_ok (T := tx.txt) (k := 4) P_next (n := b + 10) hd (w := 5) (by decide) (by decide)
  obtain ⟨M, hM, eM⟩ := mk_get v0 v1
  obtain ⟨cs, d2, e2, c1, c2, b2⟩ := lw_text x0 x2 (some (.d (readerOf rs gs))) (some (.d y)) x7 x8 x9 M hM d1 b b1
  have hz : (1000 : Nat) < sizeLine := by decide
  have ht : ∀ dr, callN tx.txt 5 "takes" [.d (readerOf rs gs), .d (.str (lineOf cs))] dr = _ := fun dr => takes_ok 1 rs gs cs dr ok (by omega) c1 (by omega)
  have hk : ∀ dr, callN tx.txt 5 "_law_is_taken" [.d (readerOf rs gs), .d (.str (lineOf cs))] dr = _ := fun dr => taken_ok 3 rs gs cs dr (by omega) (by omega)
  obtain ⟨z, z1, z2⟩ := repr_b (!decide (1 < nMarks cs) && inG gs (ledF (tab rs) 0 (plain cs).cps.toList))
  refine ⟨some (.d (.str M)), .str (lineOf cs), d2, ?_, b2⟩
  have mk : meKnown .join = true := rfl
  have mt : meTy .join (.d (.str "")) = true := rfl
  have ml : (match datas [.d (.str "@"), .d (.str "A"), .d (.str "H"), .d (.str "AB"), .d (.str "@A")] with | some xs => if fits xs.length then some (Val.ol xs) else none | none => none) = some (.ol mkL) := by
    show (if fits 5 then some (Val.ol mkL) else none) = _
    rw [show fits 5 = true from fits5]; rfl
  show (asgT (.nm 4 "k") (.d y) _).bnd (fun _ s => execs _ f_law_for2 s) = _
  simp only [xs_cons, xs_nil, x_asg, x_ex, x_ret, x_retV, x_ret0, x_ite, x_tr, r_var, r_use, r_int, r_str, r_bl, r_non, r_glob, r_tup, r_lst, r_bin, r_neg, r_not, r_cmp, r_cmp2, r_and1, r_and2, r_and, r_or1, r_or2, r_or, r_ite, r_ix, r_o0, r_oi, r_on, r_sl, r_bi, r_b0, r_b1, r_s0, r_s1, r_isi, r_te, r_tand, r_tor, r_tnot, r_ta0, r_ta1, r_to0, r_to1, bnd_ok, bnd_er, br_t, br_f, ofO_some, slotO_ok, useO_d, useO_drw, useO_scr, useO_ol, useO_od, boolO_ok, callO_ok, callO_er, a_nm, a_tp1, a_tp2, a_tp3, a_tp4, flw_nx, flw_rt, flw_bk, flw_ct, fin_rt, fin_nx, fin_er, tr_ok, tr_er, List.getElem?_cons_zero, List.getElem?_cons_succ, List.set_cons_zero, List.set_cons_succ, List.length_cons, List.length_nil, Option.map_some, Bool.not_true, Bool.not_false, setO_k, frz_d, frz_ol, frz_drw, frz_scr, getD_d, getD_ol, f_law_for2, r_call _ _ _ _ _ (h_next _), r_call _ _ _ _ _ (h_takes _), r_call _ _ _ _ _ (h_taken _), fns_of, e1, datas, fits, fits5, if_true, d_dat, Nat.reduceAdd, Nat.reduceLT, decide_true]
  rw [show ([PyData.str "@", .str "A", .str "H", .str "AB", .str "@A"] : List PyData) = mkL from rfl]
  simp only [xs_cons, xs_nil, x_asg, x_ex, x_ret, x_retV, x_ret0, x_ite, x_tr, r_var, r_use, r_int, r_str, r_bl, r_non, r_glob, r_tup, r_lst, r_bin, r_neg, r_not, r_cmp, r_cmp2, r_and1, r_and2, r_and, r_or1, r_or2, r_or, r_ite, r_ix, r_o0, r_oi, r_on, r_sl, r_bi, r_b0, r_b1, r_s0, r_s1, r_isi, r_te, r_tand, r_tor, r_tnot, r_ta0, r_ta1, r_to0, r_to1, bnd_ok, bnd_er, br_t, br_f, ofO_some, slotO_ok, useO_d, useO_drw, useO_scr, useO_ol, useO_od, boolO_ok, callO_ok, callO_er, a_nm, a_tp1, a_tp2, a_tp3, a_tp4, flw_nx, flw_rt, flw_bk, flw_ct, fin_rt, fin_nx, fin_er, tr_ok, tr_er, List.getElem?_cons_zero, List.getElem?_cons_succ, List.set_cons_zero, List.set_cons_succ, List.length_cons, List.length_nil, Option.map_some, Bool.not_true, Bool.not_false, setO_k, frz_d, frz_ol, frz_drw, frz_scr, getD_d, getD_ol, eM, r_me _ _ _ _ _ _ mk, mt, e2, join_signs cs (by omega), add_end cs (by omega), r_call _ _ _ _ _ (h_takes _), r_call _ _ _ _ _ (h_taken _), fns_of, ht, hk, z1, z2, d_dat, Nat.reduceAdd, Nat.reduceLT, decide_true]
end K07

set_option Elab.async false
set_option linter.all false
set_option maxRecDepth 100000
set_option maxHeartbeats 4000000
namespace K07
open PySem Mini
theorem lw_for3 (x0 x1 x2 x4 x5 x6 x7 x8 x9 : Option Val) (rs : List (Int × Str × Int)) (gs : List Int) (ok : RdOk rs gs) {y : PyData} (hy : y ∈ odds) (dr : Option Draw) :
    forStep (tx.txt.env 5) (.nm 8 "odd") f_law_for3 y ⟨[x0, x1, x2, some (.d (readerOf rs gs)), x4, x5, x6, x7, x8, x9], dr⟩ = .ok .nx ⟨[x0, x1, x2, some (.d (readerOf rs gs)), x4, x5, x6, x7, some (.d y), x9], dr⟩ := by
  have h : ∀ dr, callN tx.txt 5 "_law_is_refused" [.d (readerOf rs gs), .d y] dr = .ok (.d (.bool true)) dr := fun dr => refused_ok 0 rs gs dr ok hy
  show (asgT (.nm 8 "odd") (.d y) _).bnd (fun _ s => execs _ f_law_for3 s) = _
  simp only [xs_cons, xs_nil, x_asg, x_ex, x_ret, x_retV, x_ret0, x_ite, x_tr, r_var, r_use, r_int, r_str, r_bl, r_non, r_glob, r_tup, r_lst, r_bin, r_neg, r_not, r_cmp, r_cmp2, r_and1, r_and2, r_and, r_or1, r_or2, r_or, r_ite, r_ix, r_o0, r_oi, r_on, r_sl, r_bi, r_b0, r_b1, r_s0, r_s1, r_isi, r_te, r_tand, r_tor, r_tnot, r_ta0, r_ta1, r_to0, r_to1, bnd_ok, bnd_er, br_t, br_f, ofO_some, slotO_ok, useO_d, useO_drw, useO_scr, useO_ol, useO_od, boolO_ok, callO_ok, callO_er, a_nm, a_tp1, a_tp2, a_tp3, a_tp4, flw_nx, flw_rt, flw_bk, flw_ct, fin_rt, fin_nx, fin_er, tr_ok, tr_er, List.getElem?_cons_zero, List.getElem?_cons_succ, List.set_cons_zero, List.set_cons_succ, List.length_cons, List.length_nil, Option.map_some, Bool.not_true, Bool.not_false, setO_k, frz_d, frz_ol, frz_drw, frz_scr, getD_d, getD_ol, f_law_for3, r_call _ _ _ _ _ (h_ref _), fns_of, h, Nat.reduceAdd, Nat.reduceLT, decide_true]
theorem odds_ev (S : Sta) : evi (tx.txt.env 5) (.pl (.lst (.cons .non (.cons (.int 5) (.cons (.str "") (.cons (.str "a") (.cons (.str "a;b;") (.cons (.str ";;") (.cons (.str "I;") (.cons (.str "a b;") (.cons (.str "-;") (.cons (.tup (.cons (.str "a;") .nil)) (.cons (.lst (.cons (.str "a;") .nil)) (.cons (.dic .nil .nil) (.cons (.str "a;\n") .nil))))))))))))))) S = .ok odds S := rfl
theorem lw_for1 (x0 x2 x3 x4 x5 x7 x8 x9 : Option Val) (y : PyData) (d : Draw) (b : Nat) (hd : Bd d (b + 175)) :
    ∃ y3 y4 y5 y7 y8 d', forStep (tx.txt.env 5) (.nm 2 "turn") f_law_for1 y ⟨[x0, some .drw, x2, x3, x4, x5, none, x7, x8, x9], some d⟩ = .ok .nx ⟨[x0, some .drw, some (.d y), y3, y4, y5, none, y7, y8, x9], some d'⟩ ∧ (y7 = x7 ∨ ∃ z, y7 = some (.d z)) ∧ Bd d' b := by
  obtain ⟨v, d1, e1, v0, v1, b1⟩ := next_ok (T := tx.txt) (k := 4) P_next (n := b + 174) hd (w := 6) (by decide) (by decide)
  obtain ⟨rs, gs, d2, e2, ok, hr, b2⟩ := some_ok 3 (1 + v) (by omega) d1 (b + 132) (b1.le (by omega))
  obtain ⟨S', e3, y4, y5, y7, d3, rfl, h7, b3⟩ := for_nx (Γ := tx.txt.env 5) (tg := .nm 4 "k") (b := f_law_for2) (xs := rngL 0 12) (S := ⟨[x0, some .drw, some (.d y), some (.d (readerOf rs gs)), x4, x5, none, x7, x8, x9], some d2⟩)
    (fun i S => ∃ y4 y5 y7 d, S = ⟨[x0, some .drw, some (.d y), some (.d (readerOf rs gs)), y4, y5, none, y7, x8, x9], some d⟩ ∧ (y7 = x7 ∨ ∃ z, y7 = some (.d z)) ∧ Bd d (b + 11 * (12 - i))) ⟨x4, x5, x7, d2, rfl, .inl rfl, b2⟩ (by
    rintro i x S hx ⟨y4, y5, y7, d, rfl, _, hb⟩
    have hlt : i < 12 := by have := (rng_get hx).2; omega
    obtain ⟨z5, z7, d', e, hb'⟩ := lw_for2 x0 (some (.d y)) y4 y5 y7 x8 x9 rs gs ok hr x d (b + 11 * (12 - (i + 1))) (hb.le (by omega))
    exact ⟨_, e, _, _, _, _, rfl, .inr ⟨_, rfl⟩, hb'⟩)
  obtain ⟨S'', e4, y8, rfl⟩ := for_nx (Γ := tx.txt.env 5) (tg := .nm 8 "odd") (b := f_law_for3) (xs := odds) (S := ⟨[x0, some .drw, some (.d y), some (.d (readerOf rs gs)), y4, y5, none, y7, x8, x9], some d3⟩)
    (fun i S => ∃ y8, S = ⟨[x0, some .drw, some (.d y), some (.d (readerOf rs gs)), y4, y5, none, y7, y8, x9], some d3⟩) ⟨x8, rfl⟩ (by
    rintro i x S hx ⟨y8, rfl⟩
    exact ⟨_, lw_for3 x0 (some .drw) (some (.d y)) y4 y5 none y7 y8 x9 rs gs ok (List.mem_of_getElem? hx) (some d3), _, rfl⟩)
  refine ⟨some (.d (readerOf rs gs)), y4, y5, y7, y8, d3, ?_, h7, b3.le (by omega)⟩
  have e2' : callN tx.txt 5 "_law_some_reader" [.drw, .d (.int (1 + v))] (some d1) = .ok (.d (readerOf rs gs)) (some d2) := e2
  show (asgT (.nm 2 "turn") (.d y) _).bnd (fun _ s => execs _ f_law_for1 s) = _
  simp only [xs_cons, xs_nil, x_asg, x_ex, x_ret, x_retV, x_ret0, x_ite, x_tr, r_var, r_use, r_int, r_str, r_bl, r_non, r_glob, r_tup, r_lst, r_bin, r_neg, r_not, r_cmp, r_cmp2, r_and1, r_and2, r_and, r_or1, r_or2, r_or, r_ite, r_ix, r_o0, r_oi, r_on, r_sl, r_bi, r_b0, r_b1, r_s0, r_s1, r_isi, r_te, r_tand, r_tor, r_tnot, r_ta0, r_ta1, r_to0, r_to1, bnd_ok, bnd_er, br_t, br_f, ofO_some, slotO_ok, useO_d, useO_drw, useO_scr, useO_ol, useO_od, boolO_ok, callO_ok, callO_er, a_nm, a_tp1, a_tp2, a_tp3, a_tp4, flw_nx, flw_rt, flw_bk, flw_ct, fin_rt, fin_nx, fin_er, tr_ok, tr_er, List.getElem?_cons_zero, List.getElem?_cons_succ, List.set_cons_zero, List.set_cons_succ, List.length_cons, List.length_nil, Option.map_some, Bool.not_true, Bool.not_false, setO_k, frz_d, frz_ol, frz_drw, frz_scr, getD_d, getD_ol, f_law_for1, r_call _ _ _ _ _ (h_next _), r_call _ _ _ _ _ (h_some _), fns_of, e1, b_add, e2', x_for, i_rng, rngV_ok (w := 12) (by decide), e3, odds_ev, e4, Nat.reduceAdd, Nat.reduceLT, decide_true]
/-! the last part -/
def rs0 : List (Int × Str × Int) := [(0, "@", 1), (1, "@", 1)]
def gs0 : List Int := [0, 1]
theorem ok0 : RdOk rs0 gs0 := by
  refine ⟨?_, ?_, ?_, ?_⟩
  · intro p hp
    simp only [rs0, List.mem_cons, List.not_mem_nil, or_false] at hp
    rcases hp with rfl | rfl <;> exact ⟨by decide, by decide, .inl rfl⟩
  · intro i p q hp hq
    match i, hp, hq with
    | 0, hp, hq => cases hp; cases hq; decide +kernel
    | 1, hp, hq => simp [rs0] at hq
    | i + 2, hp, hq => simp [rs0] at hp
  · intro g hg
    simp only [gs0, List.mem_cons, List.not_mem_nil, or_false] at hg
    rcases hg with rfl | rfl <;> decide
  · intro i a b ha hb
    match i, ha, hb with
    | 0, ha, hb => cases ha; cases hb; decide
    | 1, ha, hb => simp [gs0] at hb
    | i + 2, ha, hb => simp [gs0] at ha
def tkB (cs : List Nat) : Bool := !decide (1 < nMarks cs) && inG gs0 (ledF (tab rs0) 0 (plain cs).cps.toList)
def tkF (x : PyData) : Option PyData := match x with
  | .str z => some (.bool (tkB z.cps.toList.dropLast))
  | _ => none
def texts : List PyData := [.str ";", .str "@;", .str "A;", .str "AA;", .str "AB;", .str "@A;", .str "H@;", .str "@@;", .str "aA;"]
theorem tk_0 (x : PyData) (hx : x ∈ texts) (dr : Option Draw) : ∃ y, tkF x = some y ∧ callN tx.txt 5 "takes" [.d (readerOf rs0 gs0), .d x] dr = .ok (.d y) dr := by
  have go : ∀ (cs : List Nat) (z : Str), lineOf cs = z → z.cps.toList.dropLast = cs → (∀ c ∈ cs, Lt c) → cs.length ≤ 50 → ∃ y, tkF (.str z) = some y ∧ callN tx.txt 5 "takes" [.d (readerOf rs0 gs0), .d (.str z)] dr = .ok (.d y) dr := fun cs z h1 h2 h3 h4 => by
    refine ⟨.bool (tkB cs), ?_, ?_⟩
    · show some (PyData.bool (tkB z.cps.toList.dropLast)) = _
      rw [h2]
    · rw [← h1]
      exact takes_ok 1 rs0 gs0 cs dr ok0 (by decide) h3 h4
  have lt : ∀ cs : List Nat, (cs.all fun c => [97, 98, 64, 65, 72, 66].contains c) = true → ∀ c ∈ cs, Lt c := fun cs h c hc => by
    have := List.all_eq_true.mp h c hc
    simpa [Lt] using this
  simp only [texts, List.mem_cons, List.not_mem_nil, or_false] at hx
  rcases hx with rfl | rfl | rfl | rfl | rfl | rfl | rfl | rfl | rfl
  · exact go [] _ (by decide +kernel) (by decide +kernel) (lt _ (by decide)) (by decide)
  · exact go [64] _ (by decide +kernel) (by decide +kernel) (lt _ (by decide)) (by decide)
  · exact go [65] _ (by decide +kernel) (by decide +kernel) (lt _ (by decide)) (by decide)
  · exact go [65, 65] _ (by decide +kernel) (by decide +kernel) (lt _ (by decide)) (by decide)
  · exact go [65, 66] _ (by decide +kernel) (by decide +kernel) (lt _ (by decide)) (by decide)
  · exact go [64, 65] _ (by decide +kernel) (by decide +kernel) (lt _ (by decide)) (by decide)
  · exact go [72, 64] _ (by decide +kernel) (by decide +kernel) (lt _ (by decide)) (by decide)
  · exact go [64, 64] _ (by decide +kernel) (by decide +kernel) (lt _ (by decide)) (by decide)
  · exact go [97, 65] _ (by decide +kernel) (by decide +kernel) (lt _ (by decide)) (by decide)
theorem tk_all0 : texts.filterMap tkF = [.bool true, .bool true, .bool true, .bool true, .bool false, .bool false, .bool false, .bool true, .bool false] := by kernel_rfl
end K07

set_option Elab.async false
set_option linter.all false
set_option maxRecDepth 100000
set_option maxHeartbeats 4000000
namespace K07
open PySem Mini
theorem begun_ok (ns : List Int) (h : ns.length ≤ sizeLine) : callN tx.txt 5 "_law_begun" [.scr ns] none = .ok .drw (some ⟨ns, bigs ns, 0⟩) := by
  show (if ns.length ≤ sizeLine then FOut.ok .drw (some ⟨ns, bigs ns, 0⟩) else .no) = _
  rw [if_pos h]
theorem lw_found (x0 x1 x2 x4 x5 x6 x7 x8 x9 : Option Val) (hx : freeSlots [7] [x0, x1, x2, some (.d (readerOf rs0 gs0)), x4, x5, x6, x7, x8, x9] = true) (dr : Option Draw) : ev (tx.txt.env 5) (.lc [("text", 7)] (.nm 7 "text") (.pl (.lst (.cons (.str ";") (.cons (.str "@;") (.cons (.str "A;") (.cons (.str "AA;") (.cons (.str "AB;") (.cons (.str "@A;") (.cons (.str "H@;") (.cons (.str "@@;") (.cons (.str "aA;") .nil))))))))))) .nil (.call "takes" (.cons (.var 3 "reader") (.cons (.var 7 "text") .nil)))) true ⟨[x0, x1, x2, some (.d (readerOf rs0 gs0)), x4, x5, x6, x7, x8, x9], dr⟩ = .ok (.ol [.bool true, .bool true, .bool true, .bool true, .bool false, .bool false, .bool false, .bool true, .bool false]) ⟨[x0, x1, x2, some (.d (readerOf rs0 gs0)), x4, x5, x6, x7, x8, x9], dr⟩ := by
  rw [← tk_all0]
  refine ev_lcP (S1 := ⟨[x0, x1, x2, some (.d (readerOf rs0 gs0)), x4, x5, x6, x7, x8, x9], dr⟩) (xs := texts) tkF rfl hx (by decide) ?_
  intro x hx
  obtain ⟨y, e1, e2⟩ := tk_0 x hx dr
  refine ⟨[x0, x1, x2, some (.d (readerOf rs0 gs0)), x4, x5, x6, some (.d x), x8, x9], rfl, ?_⟩
  show lcBody _ _ _ _ _ ⟨[x0, x1, x2, some (.d (readerOf rs0 gs0)), x4, x5, x6, none, x8, x9], dr⟩ = _
  unfold lcBody
  simp only [xs_cons, xs_nil, x_asg, x_ex, x_ret, x_retV, x_ret0, x_ite, x_tr, r_var, r_use, r_int, r_str, r_bl, r_non, r_glob, r_tup, r_lst, r_bin, r_neg, r_not, r_cmp, r_cmp2, r_and1, r_and2, r_and, r_or1, r_or2, r_or, r_ite, r_ix, r_o0, r_oi, r_on, r_sl, r_bi, r_b0, r_b1, r_s0, r_s1, r_isi, r_te, r_tand, r_tor, r_tnot, r_ta0, r_ta1, r_to0, r_to1, bnd_ok, bnd_er, br_t, br_f, ofO_some, slotO_ok, useO_d, useO_drw, useO_scr, useO_ol, useO_od, boolO_ok, callO_ok, callO_er, a_nm, a_tp1, a_tp2, a_tp3, a_tp4, flw_nx, flw_rt, flw_bk, flw_ct, fin_rt, fin_nx, fin_er, tr_ok, tr_er, List.getElem?_cons_zero, List.getElem?_cons_succ, List.set_cons_zero, List.set_cons_succ, List.length_cons, List.length_nil, Option.map_some, Bool.not_true, Bool.not_false, setO_k, frz_d, frz_ol, frz_drw, frz_scr, getD_d, getD_ol, r_call _ _ _ _ _ (h_takes _), fns_of, e1, e2, Nat.reduceAdd, Nat.reduceLT, decide_true]
theorem last_eq : cmpV .eq (.ol [.bool true, .bool true, .bool true, .bool true, .bool false, .bool false, .bool false, .bool true, .bool false]) (.ol [.bool true, .bool true, .bool true, .bool true, .bool false, .bool false, .bool false, .bool true, .bool false]) = some true := by decide +kernel
theorem reader_ev (S : Sta) : ev (tx.txt.env 5) (.tup (.cons (.tup (.cons (.tup (.cons (.int 0) (.cons (.str "@") (.cons (.int 1) .nil)))) (.cons (.tup (.cons (.int 1) (.cons (.str "@") (.cons (.int 1) .nil)))) .nil))) (.cons (.tup (.cons (.int 0) (.cons (.int 1) .nil))) .nil))) true S = .ok (.d (readerOf rs0 gs0)) S := rfl
theorem list_ev (S : Sta) : ev (tx.txt.env 5) (.lst (.cons (.bl true) (.cons (.bl true) (.cons (.bl true) (.cons (.bl true) (.cons (.bl false) (.cons (.bl false) (.cons (.bl false) (.cons (.bl true) (.cons (.bl false) .nil)))))))))) false S = .ok (.ol [.bool true, .bool true, .bool true, .bool true, .bool false, .bool false, .bool false, .bool true, .bool false]) S := rfl
theorem fits9 : decide (9 ≤ sizeLine) = true := by decide
theorem rd0 : PyData.tuple [.tuple [.tuple [.int 0, .str "@", .int 1], .tuple [.int 1, .str "@", .int 1]], .tuple [.int 0, .int 1]] = readerOf rs0 gs0 := rfl
theorem law_true : ∀ ns : List Int, ns.length ≤ 63 → ∃ dr, callN tx.txt 6 "law" [.scr ns] none = .ok (.d (.bool true)) dr := by
  intro ns hn
  have hz : (1000 : Nat) ≤ sizeLine := by decide
  have hb := begun_ok ns (by omega)
  have hlen : biV .len [.scr ns] = some (.d (.int (ns.length : Nat))) := rfl
  have hmin : biV .min [.d (.int (ns.length : Nat)), .d (.int 4)] = some (.d (.int (minI (ns.length : Nat) 4))) := rfl
  have hm : 0 ≤ minI (ns.length : Nat) 4 ∧ minI (ns.length : Nat) 4 ≤ 4 := by unfold minI; split <;> omega
  obtain ⟨S', e, y2, y3, y4, y5, y7, y8, d, rfl, h7, bd⟩ := for_nx (Γ := tx.txt.env 5) (tg := .nm 2 "turn") (b := f_law_for1) (xs := rngL 0 (2 + minI (ns.length : Nat) 4)) (S := ⟨[some (.scr ns), some .drw, none, none, none, none, none, none, none, none], some ⟨ns, bigs ns, 0⟩⟩)
    (fun i S => ∃ y2 y3 y4 y5 y7 y8 d, S = ⟨[some (.scr ns), some .drw, y2, y3, y4, y5, none, y7, y8, none], some d⟩ ∧ (y7 = none ∨ ∃ z, y7 = some (.d z)) ∧ Bd d (175 * (6 - i))) ⟨none, none, none, none, none, none, _, rfl, .inl rfl, ⟨by show (0 : Int) ≤ 0; omega, by show (0 : Int) + _ < _; omega⟩⟩ (by
    rintro i x S hx ⟨y2, y3, y4, y5, y7, y8, d, rfl, h7, hb⟩
    have hlt := (rng_get hx).2
    obtain ⟨z3, z4, z5, z7, z8, d', e, g7, b'⟩ := lw_for1 (some (.scr ns)) y2 y3 y4 y5 y7 y8 none x d (175 * (6 - (i + 1))) (hb.le (by omega))
    exact ⟨_, e, _, _, _, _, _, _, _, rfl, g7.elim (fun z => z ▸ h7) .inr, b'⟩)
  have hf : freeSlots [7] [some (.scr ns), some .drw, y2, some (.d (readerOf rs0 gs0)), y4, y5, none, y7, y8, none] = true := by
    rcases h7 with rfl | ⟨z, rfl⟩ <;> rfl
  have hfd := lw_found (some (.scr ns)) (some .drw) y2 y4 y5 none y7 y8 none hf (some d)
  refine ⟨some d, ?_⟩
  rw [call_fd (fd := f_law) rfl rfl rfl]
  show finO (execs (tx.txt.env 5) f_law_b ⟨[some (.scr ns), none, none, none, none, none, none, none, none, none], none⟩) = _
  simp only [xs_cons, xs_nil, x_asg, x_ex, x_ret, x_retV, x_ret0, x_ite, x_tr, r_var, r_use, r_int, r_str, r_bl, r_non, r_glob, r_tup, r_lst, r_bin, r_neg, r_not, r_cmp, r_cmp2, r_and1, r_and2, r_and, r_or1, r_or2, r_or, r_ite, r_ix, r_o0, r_oi, r_on, r_sl, r_bi, r_b0, r_b1, r_s0, r_s1, r_isi, r_te, r_tand, r_tor, r_tnot, r_ta0, r_ta1, r_to0, r_to1, bnd_ok, bnd_er, br_t, br_f, ofO_some, slotO_ok, useO_d, useO_drw, useO_scr, useO_ol, useO_od, boolO_ok, callO_ok, callO_er, a_nm, a_tp1, a_tp2, a_tp3, a_tp4, flw_nx, flw_rt, flw_bk, flw_ct, fin_rt, fin_nx, fin_er, tr_ok, tr_er, List.getElem?_cons_zero, List.getElem?_cons_succ, List.set_cons_zero, List.set_cons_succ, List.length_cons, List.length_nil, Option.map_some, Bool.not_true, Bool.not_false, setO_k, frz_d, frz_ol, frz_drw, frz_scr, getD_d, getD_ol, f_law_b, r_call _ _ _ _ _ (h_begun _), fns_of, hb, x_for, i_rng, hlen, hmin, b_add, rngV_ok (w := 2 + minI (ns.length : Nat) 4) (by omega), e, datas, fits, fits2, fits3, fits9, if_true, rd0, hfd, last_eq, Nat.reduceAdd, Nat.reduceLT, decide_true]
end K07

set_option Elab.async false
set_option linter.all false
set_option maxRecDepth 100000
set_option maxHeartbeats 0
open PySem PySem.W PySem.Calls PyProof.Rows
theorem PySem.Challenge.cw_tornlines_k07_whole_texts_taken_holds : PySem.Challenge.rw_tornlines_k07_whole_texts_taken.Holds := by
  w_on; o_law
  refine HandSHeadRun.head_any (r := K07.R) (q := view K07.R.prog [24]) (H := K07.hk) (ob := K07.ob) (M := 4000) (loose := K07.loose) (d := HandSHeadRun.topDef K07.R.prog 24) (kwd := []) (Mini.obM_eq _ _ _)
    (by kernel_rfl) (fun s => by kernel_rfl) K07.run (by kernel_rfl) (by kernel_rfl) (by kernel_rfl) (by rfl) (by first | assumption | decide +kernel) (by decide +kernel) ⟨rfl, rfl, rfl, rfl, rfl, by decide +kernel⟩ ?hw ?hc
  case hw => w_witness2
  case hc => exact Mini.walk_law (l := K07.Lw) (m := 63) (n := 6) (t := K07.tx) (f := 6) rfl (by decide) (by kernel_rfl) (by kernel_rfl) ⟨rfl, by decide, by decide⟩ K07.law_true

