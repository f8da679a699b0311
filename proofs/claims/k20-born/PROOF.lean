import PyProof.Rows.All
import Wide.All
import OpenK.AllK
import Wide.FinOn
import HandS.ForMost
import HandS.Exc
import HandS.ExcOwn
import HandS.TryOnly
import HandS.TryMany
import HandS.WordsExc
import HandS.Defaults
import HandS.Wide
import HandS.TupAny
import HandS.TupMul
import HandS.IsInst
import HandS.Deep
import HandS.Zip
import HandS.Rev
import HandS.Style
import HandS.Flow
import KE.KNest
import PyProof.CodeObjX
import HandS.SortInts
import HandS.TupSets
import HandS.Iter
import KE.GoesEnum
import HandS.AnyAll
import HandS.GenOver
import HandS.GenBody
import KE.KStateDown
import HandS.Ends
import HandS.More
import HandS.Words
import HandS.Head0
import HandS.Head1
import HandS.Head2
import HandS.HeadEnd
import HandS.HeadHook1
import HandS.HeadHook2
import HandS.HeadHook4
import HandS.HeadWalk
import HandS.EndTab
import PySem.Challenge.RW_chanceworks_k20_whole_ever_born
set_option Elab.async false
set_option linter.all false
set_option maxRecDepth 100000
set_option maxHeartbeats 4000000
/-! A checked reader for a part of Python over plain data: what is read, and what it gives. -/
namespace DL
open PySem PySem.Spec PyProof.Rows L2

/-- what a step gives: a value, an error of the c-th class, or nothing that is told -/
inductive R (α : Type) where
  | ok (a : α) | ex (c : Nat) | bad
def R.bind {α β : Type} (r : R α) (f : α → R β) : R β := match r with
  | .ok a => f a
  | .ex c => .ex c
  | .bad => .bad
def R.noEx {α : Type} (r : R α) : R α := match r with
  | .ok a => .ok a
  | _ => .bad

mutual
/-- no list and no dict within -/
def pure? (d : PyData) : Bool := match d with
  | .none => true
  | .bool _ => true
  | .int _ => true
  | .str _ => true
  | .tuple xs => pures xs
  | _ => false
termination_by structural d
def pures (d : List PyData) : Bool := match d with
  | [] => true
  | x :: xs => pure? x && pures xs
termination_by structural d
end

inductive Bop where
  | add | sub | mul | fdiv | mod | pow | shl | shr | band | bxor
  deriving DecidableEq
inductive Cop where
  | lt | le | gt | ge | eq | ne | is_ | isnot | in_ | notin
  deriving DecidableEq
inductive Blt where
  | len | abs | int | str | tuple | list | min2 | max2 | sum | min1 | max1 | sorted
  deriving DecidableEq

/-- the longest thing that is read -/
def big : Nat := 1000000

def truth (d : PyData) : R Bool := match d with
  | .none => .ok false
  | .bool b => .ok b
  | .int i => .ok (i != 0)
  | .str x => if x.length ≤ big then .ok ((x.length : Int) != 0) else .bad
  | .list xs => .ok (!xs.isEmpty)
  | .tuple xs => .ok (!xs.isEmpty)
  | .dict _ => .bad

def smallI (i : Int) : Bool := Nat.blt i.natAbs 18446744073709551616
def mulOk (i j : Int) : Bool := smallI i || smallI j || decide (i.natAbs.log2 + j.natAbs.log2 < 1000000)
def repL (xs : List PyData) (k : Nat) : List PyData := (List.replicate k xs).flatten
def binD (o : Bop) (a b : PyData) : R PyData := match o, a, b with
  | .add, .int i, .int j => .ok (.int (i + j))
  | .add, .str x, .str y => if x.length + y.length ≤ big then .ok (.str (x ++ y)) else .bad
  | .add, .list xs, .list ys => if xs.length + ys.length ≤ big then .ok (.list (xs ++ ys)) else .bad
  | .add, .tuple xs, .tuple ys => if xs.length + ys.length ≤ big then .ok (.tuple (xs ++ ys)) else .bad
  | .sub, .int i, .int j => .ok (.int (i - j))
  | .mul, .int i, .int j => if mulOk i j then .ok (.int (i * j)) else .bad
  | .mul, .list xs, .int k => if k ≤ 100000 ∧ -100000 ≤ k ∧ xs.length * k.toNat ≤ big then .ok (.list (repL xs k.toNat)) else .bad
  | .mul, .tuple xs, .int k => if k ≤ 1000 ∧ -1000 ≤ k ∧ xs.length ≤ 1000 ∧ xs.isEmpty = false then .ok (.tuple (repL xs k.toNat)) else .bad
  | .fdiv, .int i, .int j => if 0 < j ∧ j.natAbs.log2 < 9000 then .ok (.int (i / j)) else .bad
  | .mod, .int i, .int j => if 0 < j then .ok (.int (i % j)) else .bad
  | .mod, .dict [(.int M, .int r)], .int m => if 0 < m ∧ 0 < M ∧ M % m = 0 then .ok (.int (r % m)) else .bad
  | .pow, .int i, .int j => if 0 ≤ j ∧ j ≤ 1000000 ∧ i.natAbs < 18446744073709551616 then .ok (.int (i ^ j.toNat)) else .bad
  | .shl, .int i, .int j => if 0 ≤ j ∧ j ≤ 1000000 ∧ i.natAbs < 18446744073709551616 then .ok (.int (i * ((2 ^ j.toNat : Nat) : Int))) else .bad
  | .shr, .int i, .int j => if 0 ≤ j then .ok (.int (i / ((2 ^ j.toNat : Nat) : Int))) else .bad
  | .band, .int i, .int j => .ok (.int (Builtin.bitAnd i j))
  | .bxor, .int i, .int j => .ok (.int (Builtin.bitXor i j))
  | _, _, _ => .bad
def eqD (a b : PyData) : R Bool := match a, b with
  | .int i, .int j => .ok (i == j)
  | .bool x, .bool y => .ok (x == y)
  | .none, .none => .ok true
  | _, _ => if SeqAt.shaped a && SeqAt.shaped b then .ok (PyData.eqv a b) else .bad
def scalar (d : PyData) : Bool := match d with
  | .none => true
  | .bool _ => true
  | .int _ => true
  | .str _ => true
  | _ => false
def inD (a : PyData) (xs : List PyData) : R Bool := if scalar a && xs.all scalar then .ok (xs.any fun y => PyData.eqv y a) else .bad
def isNone (d : PyData) : Bool := match d with
  | .none => true
  | _ => false
def cmpD (o : Cop) (a b : PyData) : R Bool := match o, a, b with
  | .lt, .int i, .int j => .ok (decide (i < j))
  | .le, .int i, .int j => .ok (decide (i ≤ j))
  | .gt, .int i, .int j => .ok (decide (j < i))
  | .ge, .int i, .int j => .ok (decide (j ≤ i))
  | .eq, a, b => eqD a b
  | .ne, a, b => (eqD a b).bind fun k => .ok (!k)
  | .is_, a, .none => .ok (isNone a)
  | .isnot, a, .none => .ok (!isNone a)
  | .in_, a, .tuple xs => inD a xs
  | .in_, a, .list xs => inD a xs
  | .notin, a, .tuple xs => (inD a xs).bind fun k => .ok (!k)
  | .notin, a, .list xs => (inD a xs).bind fun k => .ok (!k)
  | _, _, _ => .bad
/-- the place in a row that a number of any sign tells -/
def atD (xs : List PyData) (i : Int) : R PyData := match i with
  | .ofNat k => (match xs[k]? with
    | some d => .ok d
    | none => .bad)
  | .negSucc k => if k < xs.length then (match xs[xs.length - (k + 1)]? with
    | some d => .ok d
    | none => .bad) else .bad
/-- a list that is locked (the script) -/
def locked (xs : List PyData) : PyData := .dict [(.none, .list xs)]
def subD (a i : PyData) : R PyData := match a, i with
  | .tuple xs, .int k => atD xs k
  | .list xs, .int k => atD xs k
  | .dict [(.none, .list xs)], .int k => atD xs k
  | _, _ => .bad
def partD (d : PyData) : R (Option Int) := match d with
  | .none => .ok none
  | .int i => .ok (some i)
  | _ => .bad
def numD (d : PyData) : R PyData := match d with
  | .int i => .ok (.int i)
  | _ => .bad
def cutD (xs : List PyData) (lo hi : Option Int) : List PyData := (xs.drop (HT.sIx xs.length 0 lo)).take (HT.sIx xs.length xs.length hi - HT.sIx xs.length 0 lo)
def sliceD (a : PyData) (lo hi : Option Int) : R PyData := match a with
  | .tuple xs => .ok (.tuple (cutD xs lo hi))
  | .list xs => .ok (.list (cutD xs lo hi))
  | _ => .bad
def revD (d : PyData) : R PyData := match d with
  | .list xs => .ok (.list xs.reverse)
  | _ => .bad
def intsOf : List PyData → Option (List Int)
  | [] => some []
  | .int i :: r => (match intsOf r with
    | some ns => some (i :: ns)
    | none => none)
  | _ :: _ => none
/-- the least, the greatest -/
def lowI (n : Int) : List Int → Int
  | [] => n
  | m :: ns => lowI (if m < n then m else n) ns
def highI (n : Int) : List Int → Int
  | [] => n
  | m :: ns => highI (if n < m then m else n) ns
def lowD (xs : List PyData) : R PyData := match intsOf xs with
  | some (n :: ns) => .ok (.int (lowI n ns))
  | _ => .bad
def highD (xs : List PyData) : R PyData := match intsOf xs with
  | some (n :: ns) => .ok (.int (highI n ns))
  | _ => .bad
def sumD (xs : List PyData) : R PyData := match intsOf xs with
  | some ns => .ok (.int ns.sum)
  | none => .bad
/-- whole numbers by their size -/
def insZ (i : Int) : List Int → List Int
  | [] => [i]
  | j :: r => if i ≤ j then i :: j :: r else j :: insZ i r
def sortZ : List Int → List Int
  | [] => []
  | i :: r => insZ i (sortZ r)
/-- rows of whole numbers, by their first, then by the next .. -/
def lexZ : List Int → List Int → Bool
  | [], _ => true
  | _ :: _, [] => false
  | x :: a, y :: b => if x < y then true else if y < x then false else lexZ a b
def insL (i : List Int) : List (List Int) → List (List Int)
  | [] => [i]
  | j :: r => if lexZ i j then i :: j :: r else j :: insL i r
def sortL : List (List Int) → List (List Int)
  | [] => []
  | i :: r => insL i (sortL r)
/-- tuples of d whole numbers, none below 0, none too great -/
def tupsOf (d : Nat) : List PyData → Option (List (List Int))
  | [] => some []
  | .tuple xs :: r => (match intsOf xs, tupsOf d r with
    | some ns, some nss => if decide (ns.length = d) && ns.all (fun n => decide (0 ≤ n) && decide (n < 1048576)) then some (ns :: nss) else none
    | _, _ => none)
  | _ :: _ => none
def sortD (xs : List PyData) : R PyData := match intsOf xs with
  | some ns => .ok (.list ((sortZ ns).map PyData.int))
  | none => .bad
/-- sorted of a list: numbers, or tuples of numbers -/
def sortDL (xs : List PyData) : R PyData := match intsOf xs with
  | some ns => .ok (.list ((sortZ ns).map PyData.int))
  | none => (match xs with
    | .tuple t :: _ => (match tupsOf t.length xs with
      | some nss => if decide (1 ≤ t.length) && decide (xs.length < 64) then .ok (.list ((sortL nss).map fun ns => .tuple (ns.map PyData.int))) else .bad
      | none => .bad)
    | _ => .bad)
def bltD (b : Blt) (ds : List PyData) : R PyData := match b, ds with
  | .len, [.tuple xs] => .ok (.int xs.length)
  | .len, [.list xs] => .ok (.int xs.length)
  | .len, [.dict [(.none, .list xs)]] => .ok (.int xs.length)
  | .len, [.str x] => if x.length ≤ big then .ok (.int x.length) else .bad
  | .abs, [.int i] => .ok (.int (if i < 0 then -i else i))
  | .int, [.int i] => .ok (.int i)
  | .int, [.bool b] => .ok (.int (if b then 1 else 0))
  | .str, [.int i] => if i.natAbs.log2 < 1920 then .ok (.str (toString i)) else .bad
  | .tuple, [.list xs] => .ok (.tuple xs)
  | .tuple, [.tuple xs] => .ok (.tuple xs)
  | .list, [.list xs] => .ok (.list xs)
  | .list, [.tuple xs] => .ok (.list xs)
  | .min2, [.int i, .int j] => .ok (.int (if j < i then j else i))
  | .max2, [.int i, .int j] => .ok (.int (if j > i then j else i))
  | .sum, [.list xs] => sumD xs
  | .sum, [.tuple xs] => sumD xs
  | .min1, [.list xs] => lowD xs
  | .min1, [.tuple xs] => lowD xs
  | .max1, [.list xs] => highD xs
  | .max1, [.tuple xs] => highD xs
  | .sorted, [.list xs] => sortDL xs
  | .sorted, [.tuple xs] => sortD xs
  | _, _ => .bad
/-- isinstance against a built-in class -/
def isiD (a : PyData) (T : String) : R Bool := match a with
  | .none => (match kitB "NoneType" T with
    | some b => .ok b
    | none => .bad)
  | .bool _ => (match kitB "bool" T with
    | some b => .ok b
    | none => .bad)
  | .int _ => (match kitB "int" T with
    | some b => .ok b
    | none => .bad)
  | .str _ => (match kitB "str" T with
    | some b => .ok b
    | none => .bad)
  | .list _ => (match kitB "list" T with
    | some b => .ok b
    | none => .bad)
  | .tuple _ => (match kitB "tuple" T with
    | some b => .ok b
    | none => .bad)
  | .dict _ => .bad

/-- a slot of a frame: not known; a value that stays; a list of one's own; a list of lists of one's own -/
inductive Sl where
  | un | sh (d : PyData) | o1 (ds : List PyData) | o2 (dss : List (List PyData))
abbrev Env := List Sl
def Sl.val : Sl → Option PyData
  | .un => none
  | .sh d => some d
  | .o1 ds => some (.list ds)
  | .o2 dss => some (.list (dss.map PyData.list))

/-- a target: a name, or names of a tuple -/
inductive Tg where
  | one (i : Nat) | many (is : List Nat)
def bindMany : List Nat → List PyData → Env → Option Env
  | [], [], ρ => some ρ
  | i :: is, d :: ds, ρ => bindMany is ds (ρ.set i (.sh d))
  | _, _, _ => none
def bindT (t : Tg) (d : PyData) (ρ : Env) : Option Env := match t with
  | .one i => some (ρ.set i (.sh d))
  | .many is => (match d with
    | .tuple ds => bindMany is ds ρ
    | _ => none)
def wipeE (ρ : Env) : List Nat → Env
  | [] => ρ
  | v :: vs => (wipeE ρ vs).set v .un

/-- expressions, argument lists, walked things -/
inductive IE where
  | var (i : Nat)
  | int (i : Int) | bl (b : Bool) | non | str (x : Str)
  | glob (j : Nat) (d : PyData)
  | bin (o : Bop) (a b : IE)
  | neg (a : IE)
  | cmp (o : Cop) (a b : IE)
  | chain (o o' : Cop) (a b c : IE)
  | not (a : IE)
  | and (a b : IE) | or (a b : IE) | one (a : IE)
  | ite (c a b : IE)
  | tup (es : IE) | lst (es : IE)
  | sub (a i : IE)
  | slice (a lo hi : IE)
  | rev (a : IE)
  | call (j : Nat) (es : IE)
  | blt (b : Blt) (es : IE)
  | isi (a : IE) (T : String)
  | lc (own : List Nat) (own' : List (Str × Nat)) (tg : Tg) (it cond elt : IE)
  | enil | econs (h t : IE) | nopart | part (a : IE)
  | iseq (a : IE) | ir1 (a : IE) | ir2 (a b : IE) | ienum (a : IE) | izip (a b : IE) | irev (a : IE) | ir3 (a b c : IE)
  /-- any (w false), all (w true) over a generator expression -/
  | gen (w : Bool) (own : List Nat) (own' : List (Str × Nat)) (tg : Tg) (it elt : IE)

def rng (lo : Int) (n : Nat) : List PyData := (List.range n).map fun k => .int (lo + (k : Nat))
def bnd (i : Int) : Bool := Nat.blt i.natAbs 4611686018427387904
def enumFrom (k : Nat) : List PyData → List PyData
  | [] => []
  | d :: ds => .tuple [.int k, d] :: enumFrom (k + 1) ds
def zipD : List PyData → List PyData → List PyData
  | d :: ds, e :: es => .tuple [d, e] :: zipD ds es
  | _, _ => []
def seqOf (d : PyData) : R (List PyData) := match d with
  | .list xs => .ok xs
  | .tuple xs => .ok xs
  | _ => .bad
def tupOf (d : PyData) : R (List PyData) := match d with
  | .tuple xs => .ok xs
  | _ => .bad
def lstOf (d : PyData) : R (List PyData) := match d with
  | .list xs => .ok xs
  | _ => .bad

/-- zip of two lists, of two tuples -/
def zipDD (x y : PyData) : R PyData := match x, y with
  | .list xs, .list ys => .ok (.list (zipD xs ys))
  | .tuple xs, .tuple ys => .ok (.list (zipD xs ys))
  | _, _ => .bad
def negD (d : PyData) : R PyData := match d with
  | .int i => .ok (.int (-i))
  | _ => .bad
def lstD (d : PyData) : R PyData := match d with
  | .tuple xs => .ok (.list xs)
  | _ => .bad
def unT (f : List PyData → R PyData) (d : PyData) : R PyData := match d with
  | .tuple xs => f xs
  | _ => .bad
def consD (x d : PyData) : R PyData := match d with
  | .tuple xs => .ok (.tuple (x :: xs))
  | _ => .bad
def r1D (d : PyData) : R PyData := match d with
  | .int n => if bnd n then .ok (.list (rng 0 n.toNat)) else .bad
  | _ => .bad
def r2D (x y : PyData) : R PyData := match x, y with
  | .int m, .int n => if bnd m && bnd n then .ok (.list (rng m (n - m).toNat)) else .bad
  | _, _ => .bad
def r3D (x y z : PyData) : R PyData := match x, y, z with
  | .int i, .int j, .int c => if c ≠ 0 ∧ c.natAbs < 1073741824 ∧ Builtin.Range.small i j c = true ∧ 0 ≤ Builtin.Range.rangeSize i j c then .ok (.list ((List.range (Builtin.Range.rangeSize i j c).toNat).map fun k => .int (i + (k : Nat) * c))) else .bad
  | _, _, _ => .bad
/-- the turns of a comprehension -/
def lcGo (tg : Tg) (fc fe : Env → R PyData) (ρ : Env) : List PyData → R (List PyData)
  | [] => .ok []
  | d :: ds => match bindT tg d ρ with
    | none => .bad
    | some ρ' => match (fc ρ').bind truth with
      | .ok true => (match fe ρ' with
        | .ok y => (match lcGo tg fc fe ρ ds with
          | .ok ys => .ok (y :: ys)
          | _ => .bad)
        | _ => .bad)
      | .ok false => lcGo tg fc fe ρ ds
      | _ => .bad

def lcD (own : List Nat) (t : Tg) (fi fc fe : Env → R PyData) (ρ : Env) : R PyData := (fi ρ).bind fun x => match x with
  | .list xs => if xs.length ≤ big then (match lcGo t fc fe (wipeE ρ own) xs with
    | .ok ys => .ok (.list ys)
    | _ => .bad) else .bad
  | _ => .bad
/-- a yes, a no, a number, as a truth -/
def boolOf (d : PyData) : Option Bool := match d with
  | .bool b => some b
  | .int k => some (k != 0)
  | _ => none
/-- the turns of any (w false), of all (w true) -/
def aaGo (w : Bool) (tg : Tg) (fe : Env → R PyData) (ρ : Env) : List PyData → R Bool
  | [] => .ok w
  | d :: ds => match bindT tg d ρ with
    | none => .bad
    | some ρ' => match fe ρ' with
      | .ok y => (match boolOf y with
        | some b => if b = w then aaGo w tg fe ρ ds else .ok (!w)
        | none => .bad)
      | _ => .bad
def aaD (w : Bool) (own : List Nat) (t : Tg) (fi fe : Env → R PyData) (ρ : Env) : R PyData := (fi ρ).bind fun x => match x with
  | .list xs => (match aaGo w t fe (wipeE ρ own) xs with
    | .ok b => .ok (.bool b)
    | _ => .bad)
  | _ => .bad
def ev (call : Nat → List PyData → R PyData) (e : IE) (ρ : Env) : R PyData := match e with
  | .var i => (match ρ[i]? with
    | some s => (match s.val with
      | some d => .ok d
      | none => .bad)
    | none => .bad)
  | .int i => .ok (.int i)
  | .bl b => .ok (.bool b)
  | .non => .ok .none
  | .str x => .ok (.str x)
  | .glob _ d => .ok d
  | .bin o a b => (ev call a ρ).bind fun x => (ev call b ρ).bind fun y => binD o x y
  | .neg a => (ev call a ρ).bind negD
  | .cmp o a b => (ev call a ρ).bind fun x => (ev call b ρ).bind fun y => (cmpD o x y).bind fun k => .ok (.bool k)
  | .chain o o' a b c => (ev call a ρ).bind fun x => (ev call b ρ).bind fun y => (cmpD o x y).bind fun k => if k then (ev call c ρ).bind fun z => (cmpD o' y z).bind fun k' => .ok (.bool k') else .ok (.bool false)
  | .not a => (ev call a ρ).bind fun x => (truth x).bind fun k => .ok (.bool (!k))
  | .and a b => (ev call a ρ).bind fun x => (truth x).bind fun k => if k then ev call b ρ else .ok x
  | .or a b => (ev call a ρ).bind fun x => (truth x).bind fun k => if k then .ok x else ev call b ρ
  | .one a => ev call a ρ
  | .ite c a b => (ev call c ρ).bind fun x => (truth x).bind fun k => if k then ev call a ρ else ev call b ρ
  | .tup es => ev call es ρ
  | .lst es => (ev call es ρ).bind lstD
  | .sub a i => (ev call a ρ).bind fun x => (ev call i ρ).bind fun y => subD x y
  | .slice a lo hi => (ev call a ρ).bind fun x => (ev call lo ρ).bind fun l => (partD l).bind fun l' => (ev call hi ρ).bind fun h => (partD h).bind fun h' => sliceD x l' h'
  | .rev a => (ev call a ρ).bind revD
  | .call j es => (ev call es ρ).bind (unT (call j))
  | .blt b es => (ev call es ρ).bind (unT (bltD b))
  | .isi a T => (ev call a ρ).bind fun x => (isiD x T).bind fun k => .ok (.bool k)
  | .lc own _ tg it cond elt => lcD own tg (ev call it) (ev call cond) (ev call elt) ρ
  | .enil => .ok (.tuple [])
  | .econs h t => (ev call h ρ).bind fun x => (ev call t ρ).bind (consD x)
  | .nopart => .ok .none
  | .part a => (ev call a ρ).bind numD
  | .iseq a => (ev call a ρ).bind fun x => (seqOf x).bind fun xs => .ok (.list xs)
  | .ir1 a => (ev call a ρ).bind r1D
  | .ir2 a b => (ev call a ρ).bind fun x => (ev call b ρ).bind (r2D x)
  | .ienum a => (ev call a ρ).bind fun x => (seqOf x).bind fun xs => .ok (.list (enumFrom 0 xs))
  | .izip a b => (ev call a ρ).bind fun x => (ev call b ρ).bind (zipDD x)
  | .irev a => (ev call a ρ).bind fun x => (seqOf x).bind fun xs => .ok (.list xs.reverse)
  | .ir3 a b c => (ev call a ρ).bind fun x => (ev call b ρ).bind fun y => (ev call c ρ).bind (r3D x y)
  | .gen w own _ tg it elt => aaD w own tg (ev call it) (ev call elt) ρ
termination_by structural e

inductive Fl where
  | next (ρ : Env) | ret (d : PyData)

/-- the lists of one's own but those at fz are hidden -/
def hideAt (fz : List Nat) : Nat → Env → Env
  | _, [] => []
  | n, s :: r => (match s with
    | .o1 _ => if fz.contains n then s else .un
    | .o2 _ => if fz.contains n then s else .un
    | _ => s) :: hideAt fz (n + 1) r
/-- the slots at fz are given up -/
def giveUp (s : Sl) : Sl := match s.val with
  | some d => .sh d
  | none => .un
def give (fz : List Nat) (ρ : Env) : Env := match fz with
  | [] => ρ
  | i :: r => (match ρ[i]? with
    | some s => (give r ρ).set i (giveUp s)
    | none => give r ρ)
def whileGo (fc : Env → R PyData) (fb : Env → R Fl) : Nat → Env → R Fl
  | 0, _ => .bad
  | n + 1, ρ => ((fc ρ).bind truth).bind fun k => if k then (fb ρ).bind fun f => (match f with
    | .next ρ' => whileGo fc fb n ρ'
    | .ret d => .ok (.ret d)) else .ok (.next ρ)
def forGo (tg : Tg) (fb : Env → R Fl) : List PyData → Env → R Fl
  | [], ρ => .ok (.next ρ)
  | d :: ds, ρ => match bindT tg d ρ with
    | none => .bad
    | some ρ' => (fb ρ').bind fun f => (match f with
      | .next ρ'' => forGo tg fb ds ρ''
      | .ret d => .ok (.ret d))
def R.next (r : R Fl) (f : Env → R Fl) : R Fl := r.bind fun x => match x with
  | .next ρ => f ρ
  | .ret d => .ok (.ret d)
def setMany : List Nat → List PyData → Env → Env
  | i :: is, d :: ds, ρ => setMany is ds (ρ.set i (.sh d))
  | _, _, ρ => ρ

end DL
namespace DL
open PySem PySem.Spec PyProof.Rows L2

abbrev St := L2.St
/-- the tables of the defs -/
class Tabs where
  cs : List Addr
variable [Tabs]
/-! ### what stands for a datum -/
def Sub (S H : Hp) : Prop := ∀ b o, S b = some o → H b = some o
theorem Sub.refl (S : Hp) : Sub S S := fun _ _ h => h
theorem Sub.trans {A B C : Hp} (h : Sub A B) (g : Sub B C) : Sub A C := fun b o e => g b o (h b o e)
mutual
def Rp (K : PySem.W.Frag) (S : Hp) (d : PyData) (v : V) : Prop := match d with
  | .none => v = .non
  | .bool b => v = .bl b
  | .int i => v = .int i
  | .str x => v = .str x
  | .list ds => ∃ a xs, v = .ref a ∧ S a = some (.lst xs) ∧ RpA K S ds xs
  | .tuple ds => ∃ a xs, v = .ref a ∧ SqT K S a xs ∧ RpA K S ds xs
  | .dict kvs => ∃ (a : Addr) (ns : List Int), kvs = [(.none, .list (ns.map PyData.int))] ∧ v = .ref a ∧ SqL K S a (ns.map V.int)
termination_by structural d
def RpA (K : PySem.W.Frag) (S : Hp) (ds : List PyData) (vs : List V) : Prop := match ds with
  | [] => vs = []
  | d :: ds => ∃ v r, vs = v :: r ∧ Rp K S d v ∧ RpA K S ds r
termination_by structural ds
end
section
variable {K : PySem.W.Frag} {S S' H : Hp}
theorem SqT.sub {a : Addr} {xs : List V} (h : Sub S H) (q : SqT K S a xs) : SqT K H a xs := by
  rcases q with (q | ⟨o, q⟩) | q
  · exact .inl (.inl (h _ _ q))
  · exact .inl (.inr ⟨o, h _ _ q⟩)
  · exact .inr q
theorem SqL.sub {a : Addr} {xs : List V} (h : Sub S H) (q : SqL K S a xs) : SqL K H a xs := by
  rcases q with (q | ⟨o, q⟩) | q
  · exact .inl (.inl (h _ _ q))
  · exact .inl (.inr ⟨o, h _ _ q⟩)
  · exact .inr q
mutual
theorem Rp.sub (h : Sub S H) : ∀ (d : PyData) (v : V), Rp K S d v → Rp K H d v
  | .none, v, q => by simp only [Rp] at q ⊢; exact q
  | .bool b, v, q => by simp only [Rp] at q ⊢; exact q
  | .int b, v, q => by simp only [Rp] at q ⊢; exact q
  | .str b, v, q => by simp only [Rp] at q ⊢; exact q
  | .list ds, v, q => by
    simp only [Rp] at q ⊢
    obtain ⟨a, xs, e, q1, q2⟩ := q
    exact ⟨a, xs, e, h _ _ q1, RpA.sub h ds xs q2⟩
  | .tuple ds, v, q => by
    simp only [Rp] at q ⊢
    obtain ⟨a, xs, e, q1, q2⟩ := q
    exact ⟨a, xs, e, SqT.sub h q1, RpA.sub h ds xs q2⟩
  | .dict kvs, v, q => by
    simp only [Rp] at q ⊢
    obtain ⟨a, ns, e1, e2, e3⟩ := q
    exact ⟨a, ns, e1, e2, SqL.sub h e3⟩
theorem RpA.sub (h : Sub S H) : ∀ (ds : List PyData) (vs : List V), RpA K S ds vs → RpA K H ds vs
  | [], vs, q => by simp only [RpA] at q ⊢; exact q
  | d :: ds, vs, q => by
    simp only [RpA] at q ⊢
    obtain ⟨v, r, e, q1, q2⟩ := q
    exact ⟨v, r, e, Rp.sub h d v q1, RpA.sub h ds r q2⟩
end
mutual
theorem Rp.pure (h : ∀ a xs, SqT K S a xs → SqT K S' a xs) : ∀ (d : PyData) (v : V), pure? d = true → Rp K S d v → Rp K S' d v
  | .none, v, _, q => by simp only [Rp] at q ⊢; exact q
  | .bool b, v, _, q => by simp only [Rp] at q ⊢; exact q
  | .int b, v, _, q => by simp only [Rp] at q ⊢; exact q
  | .str b, v, _, q => by simp only [Rp] at q ⊢; exact q
  | .list ds, v, p, q => by simp [pure?] at p
  | .tuple ds, v, p, q => by
    simp only [Rp] at q ⊢
    simp only [pure?] at p
    obtain ⟨a, xs, e, q1, q2⟩ := q
    exact ⟨a, xs, e, h _ _ q1, RpA.pure h ds xs p q2⟩
  | .dict kvs, v, p, q => by simp [pure?] at p
theorem RpA.pure (h : ∀ a xs, SqT K S a xs → SqT K S' a xs) : ∀ (ds : List PyData) (vs : List V), pures ds = true → RpA K S ds vs → RpA K S' ds vs
  | [], vs, _, q => by simp only [RpA] at q ⊢; exact q
  | d :: ds, vs, p, q => by
    simp only [RpA] at q ⊢
    simp only [pures, Bool.and_eq_true] at p
    obtain ⟨v, r, e, q1, q2⟩ := q
    exact ⟨v, r, e, Rp.pure h d v p.1 q1, RpA.pure h ds r p.2 q2⟩
end
theorem SqL.ofS {a : Addr} {xs : List V} (h : S a = some (.lst xs)) : SqL K S a xs := .inl (.inl h)
mutual
theorem Rp.dp : ∀ (d : PyData) (v : V), d.canLay0 = true → Rp K S d v → Dp K S v d
  | .none, v, _, q => by simp only [Rp] at q; subst q; exact .non
  | .bool b, v, _, q => by simp only [Rp] at q; subst q; exact .bl _
  | .int b, v, _, q => by simp only [Rp] at q; subst q; exact .int _
  | .str b, v, _, q => by simp only [Rp] at q; subst q; exact .str _
  | .list ds, v, p, q => by
    simp only [Rp] at q
    obtain ⟨a, xs, e, q1, q2⟩ := q
    subst e
    simp only [PyData.canLay0] at p
    exact .lst (SqL.ofS q1) (RpA.dp ds xs p q2)
  | .tuple ds, v, p, q => by
    simp only [Rp] at q
    obtain ⟨a, xs, e, q1, q2⟩ := q
    subst e
    simp only [PyData.canLay0] at p
    exact .tup q1 (RpA.dp ds xs p q2)
  | .dict kvs, v, p, q => by simp [PyData.canLay0] at p
theorem RpA.dp : ∀ (ds : List PyData) (vs : List V), PyData.canLayAll0 ds = true → RpA K S ds vs → DpAll K S vs ds
  | [], vs, _, q => by simp only [RpA] at q; subst q; exact .nil
  | d :: ds, vs, p, q => by
    simp only [RpA] at q
    obtain ⟨v, r, e, q1, q2⟩ := q
    subst e
    simp only [PyData.canLayAll0, Bool.and_eq_true] at p
    exact .cons (Rp.dp d v p.1 q1) (RpA.dp ds r p.2 q2)
end
theorem RpA.length : ∀ {ds : List PyData} {vs : List V}, RpA K S ds vs → vs.length = ds.length
  | [], vs, q => by simp only [RpA] at q; subst q; rfl
  | d :: ds, vs, q => by
    simp only [RpA] at q
    obtain ⟨v, r, e, q1, q2⟩ := q
    subst e
    simp only [List.length_cons, RpA.length q2]
theorem RpA.get : ∀ {ds : List PyData} {vs : List V} {i : Nat} {d : PyData}, RpA K S ds vs → ds[i]? = some d → ∃ v, vs[i]? = some v ∧ Rp K S d v
  | [], vs, i, d, q, h => by simp at h
  | d' :: ds, vs, i, d, q, h => by
    simp only [RpA] at q
    obtain ⟨v, r, e, q1, q2⟩ := q
    subst e
    cases i with
    | zero =>
      simp only [List.getElem?_cons_zero, Option.some.injEq] at h
      subst h
      exact ⟨v, rfl, q1⟩
    | succ i =>
      rw [List.getElem?_cons_succ] at h ⊢
      exact RpA.get q2 h
theorem RpA.get' : ∀ {ds : List PyData} {vs : List V} {i : Nat} {v : V}, RpA K S ds vs → vs[i]? = some v → ∃ d, ds[i]? = some d ∧ Rp K S d v
  | [], vs, i, d, q, h => by simp only [RpA] at q; subst q; simp at h
  | d' :: ds, vs, i, d, q, h => by
    simp only [RpA] at q
    obtain ⟨v, r, e, q1, q2⟩ := q
    subst e
    cases i with
    | zero =>
      simp only [List.getElem?_cons_zero, Option.some.injEq] at h
      subst h
      exact ⟨d', rfl, q1⟩
    | succ i =>
      rw [List.getElem?_cons_succ] at h ⊢
      exact RpA.get' q2 h
theorem RpA.nil : RpA K S [] [] := by simp only [RpA]
theorem RpA.cons {d : PyData} {v : V} {ds : List PyData} {vs : List V} (h : Rp K S d v) (g : RpA K S ds vs) : RpA K S (d :: ds) (v :: vs) := by
  simp only [RpA]
  exact ⟨v, vs, rfl, h, g⟩
theorem RpA.append : ∀ {ds : List PyData} {vs : List V} {es : List PyData} {us : List V}, RpA K S ds vs → RpA K S es us → RpA K S (ds ++ es) (vs ++ us)
  | [], vs, es, us, q, h => by simp only [RpA] at q; subst q; exact h
  | d :: ds, vs, es, us, q, h => by
    simp only [RpA] at q
    obtain ⟨v, r, e, q1, q2⟩ := q
    subst e
    exact RpA.cons q1 (RpA.append q2 h)
theorem RpA.set : ∀ {ds : List PyData} {vs : List V} {d : PyData} {v : V} (i : Nat), RpA K S ds vs → Rp K S d v → RpA K S (ds.set i d) (vs.set i v)
  | [], vs, d, v, i, q, h => by simp only [RpA] at q; subst q; simpa using RpA.nil
  | d' :: ds, vs, d, v, i, q, h => by
    simp only [RpA] at q
    obtain ⟨v', r, e, q1, q2⟩ := q
    subst e
    cases i with
    | zero => exact RpA.cons h q2
    | succ i => exact RpA.cons q1 (RpA.set i q2 h)
theorem RpA.drop : ∀ {ds : List PyData} {vs : List V} (n : Nat), RpA K S ds vs → RpA K S (ds.drop n) (vs.drop n)
  | [], vs, n, q => by simp only [RpA] at q; subst q; simpa using RpA.nil
  | d :: ds, vs, 0, q => q
  | d :: ds, vs, n + 1, q => by
    simp only [RpA] at q
    obtain ⟨v', r, e, q1, q2⟩ := q
    subst e
    exact RpA.drop n q2
theorem RpA.take : ∀ {ds : List PyData} {vs : List V} (n : Nat), RpA K S ds vs → RpA K S (ds.take n) (vs.take n)
  | [], vs, n, q => by simp only [RpA] at q; subst q; simpa using RpA.nil
  | d :: ds, vs, 0, q => by simpa using RpA.nil
  | d :: ds, vs, n + 1, q => by
    simp only [RpA] at q
    obtain ⟨v', r, e, q1, q2⟩ := q
    subst e
    exact RpA.cons q1 (RpA.take n q2)
theorem RpA.reverse {ds : List PyData} {vs : List V} (q : RpA K S ds vs) : RpA K S ds.reverse vs.reverse := by
  induction ds generalizing vs with
  | nil => simp only [RpA] at q; subst q; simpa using RpA.nil
  | cons d ds ih =>
    simp only [RpA] at q
    obtain ⟨v', r, e, q1, q2⟩ := q
    subst e
    rw [List.reverse_cons, List.reverse_cons]
    exact RpA.append (ih q2) (RpA.cons q1 RpA.nil)
theorem RpA.rep {ds : List PyData} {vs : List V} (q : RpA K S ds vs) : ∀ k : Nat, RpA K S (List.replicate k ds).flatten (List.replicate k vs).flatten
  | 0 => RpA.nil
  | k + 1 => by
    rw [List.replicate_succ, List.replicate_succ, List.flatten_cons, List.flatten_cons]
    exact RpA.append q (RpA.rep q k)
theorem RpA.ints : ∀ {ds : List PyData} {vs : List V} {ns : List Int}, RpA K S ds vs → intsOf ds = some ns → vs = ns.map V.int
  | [], vs, ns, q, h => by
    simp only [RpA] at q; subst q
    simp only [intsOf, Option.some.injEq] at h
    subst h; rfl
  | d :: ds, vs, ns, q, h => by
    simp only [RpA] at q
    obtain ⟨v', r, e, q1, q2⟩ := q
    subst e
    cases d <;> simp only [intsOf] at h <;> try cases h
    rename_i i
    cases e : intsOf ds with
    | none => rw [e] at h; cases h
    | some ms =>
      rw [e] at h
      simp only [Option.some.injEq] at h
      subst h
      have e2 := RpA.ints q2 e
      subst e2
      have e3 : v' = .int i := by simpa only [Rp] using q1
      subst e3
      rfl
theorem RpA.ofInts (ns : List Int) : RpA K S (ns.map PyData.int) (ns.map V.int) := by
  induction ns with
  | nil => exact RpA.nil
  | cons n ns ih => exact RpA.cons (by simp only [Rp]) ih
theorem Rp.tup {a : Addr} {xs : List V} {ds : List PyData} (h : S a = some (.tup xs)) (q : RpA K S ds xs) : Rp K S (.tuple ds) (.ref a) := by
  simp only [Rp]
  exact ⟨a, xs, rfl, .inl (.inl h), q⟩
theorem Rp.lst {a : Addr} {xs : List V} {ds : List PyData} (h : S a = some (.lst xs)) (q : RpA K S ds xs) : Rp K S (.list ds) (.ref a) := by
  simp only [Rp]
  exact ⟨a, xs, rfl, h, q⟩
end

/-! ### tables of code may grow -/
def Tb (H : Hp) (b : Addr) (o : HO) : Prop := H b = some o ∨ ∃ ps more, o = .tbl ps ∧ H b = some (.tbl (ps ++ more))
theorem Tb.lst {H : Hp} {b : Addr} {xs : List V} (h : Tb H b (.lst xs)) : H b = some (.lst xs) := by
  rcases h with h | ⟨_, _, e, _⟩
  · exact h
  · cases e
theorem Tb.tup {H : Hp} {b : Addr} {xs : List V} (h : Tb H b (.tup xs)) : H b = some (.tup xs) := by
  rcases h with h | ⟨_, _, e, _⟩
  · exact h
  · cases e
theorem Tb.frz {H : Hp} {b : Addr} {o : Obj} {u : HO} (h : Tb H b (.frz o u)) : H b = some (.frz o u) := by
  rcases h with h | ⟨_, _, e, _⟩
  · exact h
  · cases e
theorem Tb.ne {H : Hp} {b : Addr} {o : HO} (h : Tb H b o) : H b ≠ none := fun n => by
  rcases h with h | ⟨_, _, _, h⟩ <;> (rw [n] at h; cases h)
def UpT (H H' : Hp) : Prop := ∀ b o, H b = some o → Tb H' b o
theorem Tb.up {H H' : Hp} {b : Addr} {o : HO} (h : Tb H b o) (u : UpT H H') : Tb H' b o := by
  rcases h with h | ⟨ps, more, e, h⟩
  · exact u b o h
  · subst e
    rcases u b _ h with q | ⟨ps', more', e', q⟩
    · exact .inr ⟨ps, more, rfl, q⟩
    · cases e'
      exact .inr ⟨ps, more ++ more', rfl, by rw [q, Array.append_assoc]⟩
theorem UpT.refl (H : Hp) : UpT H H := fun _ _ e => .inl e
theorem UpT.trans {A B C : Hp} (h : UpT A B) (g : UpT B C) : UpT A C := fun b o e => (h b o e).up g
/-- o is a code object, its table at P -/
def CodeO (o : Obj) (P : Addr) : Prop :=
  ∃ vs file tf flags tg inF text tt, o.cls = .type "code" ∧ o.data = .fields vs ∧ vs[11]? = some (.ref P) ∧ vs.getD 11 .none = .ref P ∧ vs.getD 18 .none = .str file tf ∧
    vs.getD 7 .none = .int flags tg ∧ vs.getD 9 .none = .bool inF ∧ vs.getD 10 .none = .int text tt
theorem CodeO.hd {o : Obj} {c P : Addr} {h : Heap} (x : CodeO o P) (e : h.get? c = some o) (n : c ≠ P) : PySem.W.CodeHd h c P :=
  let ⟨vs, file, tf, flags, tg, inF, text, tt, e1, e2, e3, e4, e5, e6, e7, e8⟩ := x
  ⟨o, vs, file, tf, flags, tg, inF, text, tt, e, e1, e2, e3, e4, e5, e6, e7, e8, n⟩
/-- every table of H holds known code objects alone; the defs' tables are there -/
structure TkOk (H : Hp) : Prop where
  all : ∀ P ps, H P = some (.tbl ps) → TriplesOk ps.toList ∧ ∀ pos c, codeAmong pos ps.toList = some c → ∃ a o P' ps', c = .ref a ∧ H a = some (.frz o (.own 0)) ∧ CodeO o P' ∧ a ≠ P' ∧ H P' = some (.tbl ps')
  cs : ∀ P ∈ Tabs.cs, ∃ ps, H P = some (.tbl ps)
/-- what stands is changed at places that are neither tables nor code objects -/
theorem TkOk.to {H H' : Hp} (t : TkOk H) (h1 : ∀ b ps, H b = some (.tbl ps) → H' b = some (.tbl ps)) (h2 : ∀ b o u, H b = some (.frz o u) → H' b = some (.frz o u)) (h3 : ∀ b ps, H' b = some (.tbl ps) → H b = some (.tbl ps)) : TkOk H' where
  all := fun P ps e => by
    obtain ⟨z, q⟩ := t.all P ps (h3 P ps e)
    refine ⟨z, fun pos c hc => ?_⟩
    obtain ⟨a, o, P', ps', e1, e2, e3, e4, e5⟩ := q pos c hc
    exact ⟨a, o, P', ps', e1, h2 _ _ _ e2, e3, e4, h1 _ _ e5⟩
  cs := fun P hP => by
    obtain ⟨ps, e⟩ := t.cs P hP
    exact ⟨ps, h1 _ _ e⟩
theorem TkOk.upd {H : Hp} {p : Addr} {o : HO} (t : TkOk H) (n : H p = none ∨ ∃ xs, H p = some (.lst xs)) (ho : ∀ ps, o ≠ .tbl ps) : TkOk (upd H p o) := by
  have ne : ∀ b u, H b = some u → (∀ xs, u ≠ .lst xs) → b ≠ p := fun b u e q z => by
    subst z
    rcases n with n | ⟨xs, n⟩
    · rw [n] at e; cases e
    · rw [n] at e; cases e; exact q xs rfl
  refine t.to (fun b ps e => ?_) (fun b o' u e => ?_) fun b ps e => ?_
  · rw [upd_ne (ne b _ e fun xs z => by cases z)]; exact e
  · rw [upd_ne (ne b _ e fun xs z => by cases z)]; exact e
  · by_cases q : b = p
    · subst q; rw [upd_same] at e; cases e; exact absurd rfl (ho ps)
    · rw [upd_ne q] at e; exact e
structure Up (H H' : Hp) : Prop where
  h : UpT H H'
  t : TkOk H → TkOk H'
theorem Up.refl (H : Hp) : Up H H := ⟨UpT.refl H, id⟩
theorem Up.trans {A B C : Hp} (h : Up A B) (g : Up B C) : Up A C := ⟨h.h.trans g.h, fun t => g.t (h.t t)⟩
theorem Up.lst {H H' : Hp} (h : Up H H') {b : Addr} {xs : List V} (e : H b = some (.lst xs)) : H' b = some (.lst xs) := (h.h b _ e).lst
theorem Up.no {H H' : Hp} (h : Up H H') {p : Addr} (n : H' p = none) : H p = none := by
  cases e : H p with
  | none => rfl
  | some o => exact absurd n (h.h p o e).ne
/-- the part S of H: no table is in it -/
structure In (S H : Hp) : Prop where
  sub : Sub S H
  nt : ∀ b ps, S b ≠ some (.tbl ps)
  tk : TkOk H
instance {S H : Hp} : CoeFun (In S H) fun _ => ∀ b o, S b = some o → H b = some o := ⟨fun h => h.sub⟩

/-! ### a heap that has grown, beside the part that stays -/
structure Grow (H S H' S' : Hp) : Prop where
  h : Up H H'
  s : Sub S S'
  in_ : In S' H'
  new : ∀ b, S b = none → S' b ≠ none → H b = none
theorem Grow.refl {H S : Hp} (h : In S H) : Grow H S H S := ⟨Up.refl _, Sub.refl _, h, fun _ a b => absurd a b⟩
theorem Grow.trans {H S H1 S1 H2 S2 : Hp} (a : Grow H S H1 S1) (b : Grow H1 S1 H2 S2) : Grow H S H2 S2 := by
  refine ⟨a.h.trans b.h, a.s.trans b.s, b.in_, fun c e n => ?_⟩
  by_cases q : S1 c = none
  · exact a.h.no (b.new c q n)
  · exact a.new c e q
theorem sub_upd {S : Hp} {p : Addr} {o : HO} (n : S p = none) : Sub S (upd S p o) := fun b u e => by
  rw [upd_ne (fun z => by rw [z, n] at e; cases e)]; exact e
theorem sub_upd2 {S H : Hp} {p : Addr} {o : HO} (h : Sub S H) : Sub (upd S p o) (upd H p o) := fun b u e => by
  by_cases q : b = p
  · subst q; rw [upd_same] at e ⊢; exact e
  · rw [upd_ne q] at e ⊢; exact h b u e
theorem Sub.none {S H : Hp} (h : Sub S H) {p : Addr} (n : H p = none) : S p = none := by
  cases e : S p with
  | none => rfl
  | some o => rw [h p o e] at n; cases n
theorem In.no {S H : Hp} (h : In S H) {p : Addr} (n : H p = none) : S p = none := h.sub.none n
theorem up_upd {H : Hp} {p : Addr} {o : HO} (n : H p = none) (ho : ∀ ps, o ≠ .tbl ps := by intro _ z; cases z) : Up H (upd H p o) := ⟨fun b u e => .inl (sub_upd n b u e), fun t => t.upd (.inl n) ho⟩
/-- a new thing is laid beside -/
theorem In.lay {S H : Hp} (h : In S H) {p : Addr} {o : HO} (n : H p = none) (ho : ∀ ps, o ≠ .tbl ps := by intro _ z; cases z) : In S (upd H p o) := ⟨h.sub.trans (sub_upd n), h.nt, h.tk.upd (.inl n) ho⟩
/-- a list that is not in the part that stays is changed -/
theorem In.poke {S H : Hp} (h : In S H) {p : Addr} {xs : List V} {o : HO} (e : H p = some (.lst xs)) (n : S p = none) (ho : ∀ ps, o ≠ .tbl ps := by intro _ z; cases z) : In S (upd H p o) :=
  ⟨fun b u q => by rw [upd_ne (fun z => by rw [z, n] at q; cases q)]; exact h.sub b u q, h.nt, h.tk.upd (.inr ⟨xs, e⟩) ho⟩
theorem In.up {S H H' : Hp} (h : In S H) (u : Up H H') : In S H' := ⟨fun b o e => by
    rcases u.h b o (h.sub b o e) with z | ⟨ps, more, e1, _⟩
    · exact z
    · subst e1; exact absurd e (h.nt b ps), h.nt, u.t h.tk⟩
/-- .. beside a thing that has come since -/
theorem Up.pokeN {A B : Hp} (h : Up A B) {p : Addr} {xs : List V} {o : HO} (n : A p = none) (e : B p = some (.lst xs)) (ho : ∀ ps, o ≠ .tbl ps := by intro _ z; cases z) : Up A (upd B p o) :=
  ⟨fun b u q => by
    have ne : b ≠ p := fun z => by rw [z, n] at q; cases q
    rcases h.h b u q with z | ⟨ps, more, e1, z⟩
    · exact .inl (by rw [upd_ne ne]; exact z)
    · exact .inr ⟨ps, more, e1, by rw [upd_ne ne]; exact z⟩, fun t => (h.t t).upd (.inr ⟨xs, e⟩) ho⟩
/-- .. to a smaller part -/
theorem In.less {S' S H : Hp} (h : In S H) (s : Sub S' S) : In S' H := ⟨s.trans h.sub, fun b ps e => h.nt b ps (s b _ e), h.tk⟩
/-- a new thing is laid and stays -/
theorem Grow.laid {H S : Hp} (h : In S H) {p : Addr} (n : H p = none) (o : HO) (ho : ∀ ps, o ≠ .tbl ps := by intro _ z; cases z) : Grow H S (upd H p o) (upd S p o) :=
  ⟨up_upd n ho, sub_upd (h.no n), ⟨sub_upd2 h.sub, fun b ps e => by
    by_cases q : b = p
    · subst q; rw [upd_same] at e; cases e; exact ho ps rfl
    · rw [upd_ne q] at e; exact h.nt b ps e, h.tk.upd (.inl n) ho⟩, fun b e q => by
    by_cases z : b = p
    · subst z; exact n
    · rw [upd_ne z] at q; exact absurd e q⟩

/-! ### readings over data -/
def post {α : Type} (r : R α) (P : α → Prop) (E : Nat → Prop) : Prop := match r with
  | .ok a => P a
  | .ex c => E c
  | .bad => False
theorem post_bind {α β : Type} {r : R α} {f : α → R β} {P : β → Prop} {E : Nat → Prop} : post (r.bind f) P E ↔ post r (fun a => post (f a) P E) E := by
  cases r <;> exact Iff.rfl
theorem post_mono {α : Type} {r : R α} {P P' : α → Prop} {E E' : Nat → Prop} (h : post r P E) (hp : ∀ a, P a → P' a) (he : ∀ c, E c → E' c) : post r P' E' := by
  cases r with
  | ok a => exact hp a h
  | ex c => exact he c h
  | bad => exact h
theorem post_monoR {α : Type} {r : R α} {P P' : α → Prop} {E E' : Nat → Prop} (h : post r P E) (hp : ∀ a, r = .ok a → P a → P' a) (he : ∀ c, E c → E' c) : post r P' E' := by
  cases r with
  | ok a => exact hp a rfl h
  | ex c => exact he c h
  | bad => exact h

/-- the slots' values -/
def ShR (K : PySem.W.Frag) (S : Hp) (σ : St) (ρ : Env) : Prop := ∀ (i : Nat) (s : Sl) (d : PyData), ρ[i]? = some s → s.val = some d → ∃ v, σ[i]? = some (some v) ∧ Rp K S d v
theorem ShR.sub {K : PySem.W.Frag} {S H : Hp} {σ : St} {ρ : Env} (h : ShR K S σ ρ) (s : Sub S H) : ShR K H σ ρ := fun i sl d e1 e2 => by
  obtain ⟨v, q1, q2⟩ := h i sl d e1 e2
  exact ⟨v, q1, Rp.sub s d v q2⟩

structure Wh where
  K : PySem.W.Frag
  cl : Nat → Value
  W : WX
def Wh.E (w : Wh) (σ : St) (H : Hp) : Nat → Prop := fun c => ∀ H', Up H H' → w.W (w.cl c) none σ H'
theorem Wh.E.up {w : Wh} {σ : St} {H H1 : Hp} {c : Nat} (h : w.E σ H c) (s : Up H H1) : w.E σ H1 c := fun H' s' => h H' (s.trans s')
/-- an expression's reading: what f gives of the slots' data -/
def tD (w : Wh) (f : Env → R PyData) : TE := fun σ H Q => ∃ S ρ, In S H ∧ ShR w.K S σ ρ ∧
  post (f ρ) (fun d => ∀ v H' S', Grow H S H' S' → Rp w.K S' d v → Q v H') (w.E σ H)
def tDT (w : Wh) (f : Env → R Bool) : TT := fun σ H Q => ∃ S ρ, In S H ∧ ShR w.K S σ ρ ∧
  post (f ρ) (fun b => ∀ H' S', Grow H S H' S' → Q b H') (w.E σ H)
def tDA (w : Wh) (f : Env → R PyData) : TA := fun σ H Q => ∃ S ρ, In S H ∧ ShR w.K S σ ρ ∧
  post (f ρ) (fun d => match d with
    | .tuple ds => ∀ vs H' S', Grow H S H' S' → RpA w.K S' ds vs → Q vs H'
    | _ => False) (w.E σ H)
def tDO (w : Wh) (f : Env → R PyData) : TO := fun σ H Q => ∃ S ρ, In S H ∧ ShR w.K S σ ρ ∧
  post ((f ρ).bind partD) (fun o => ∀ H' S', Grow H S H' S' → Q o H') (w.E σ H)
theorem pe_imp {X : Cx} {e : Expr} {t t' : TE} (h : PE X e t) (hi : ∀ σ H Q, t' σ H Q → t σ H Q) : PE X e t' := ⟨fun pins s σ H Q I q => h.run pins s σ H Q I (hi σ H Q q)⟩
theorem pt_imp {X : Cx} {e : Expr} {t t' : TT} (h : PT X e t) (hi : ∀ σ H Q, t' σ H Q → t σ H Q) : PT X e t' := ⟨fun pins s σ H Q I q => h.run pins s σ H Q I (hi σ H Q q)⟩
theorem pa_imp {X : Cx} {e : List Expr} {t t' : TA} (h : PA X e t) (hi : ∀ σ H Q, t' σ H Q → t σ H Q) : PA X e t' := ⟨fun pos pins s σ H Q I q => h.run pos pins s σ H Q I (hi σ H Q q)⟩
theorem ps_imp {X : Cx} {e : Stmt} {t t' : TS} (h : PS X e t) (hi : ∀ D σ H, t' D σ H → t D σ H) : PS X e t' := ⟨fun pins s σ H D I q => h.run pins s σ H D I (hi D σ H q)⟩
theorem pss_imp {X : Cx} {e : List Stmt} {t t' : TS} (h : PSs X e t) (hi : ∀ D σ H, t' D σ H → t D σ H) : PSs X e t' := ⟨fun pins s σ H D I q => h.run pins s σ H D I (hi D σ H q)⟩
section
variable {w : Wh} {f g : Env → R PyData} {σ : St} {H : Hp}
/-- one value, and on -/
theorem td_one {S : Hp} {ρ : Env} {r : V → Hp → Prop} (hS : In S H) (hr : ShR w.K S σ ρ) {P : PyData → Prop}
    (h : post (f ρ) P (w.E σ H)) (hP : ∀ d v H' S', P d → Grow H S H' S' → Rp w.K S' d v → r v H') : tD w f σ H r :=
  ⟨S, ρ, hS, hr, post_mono h (fun d p v H' S' g q => hP d v H' S' p g q) fun _ e => e⟩
/-- two values, and on -/
theorem td_two {S : Hp} {ρ : Env} {r : V → V → Hp → Prop} (hS : In S H) (hr : ShR w.K S σ ρ) {P : PyData → PyData → Prop}
    (h : post (f ρ) (fun x => post (g ρ) (P x) (w.E σ H)) (w.E σ H))
    (hP : ∀ x y vx vy H2 S2, P x y → Grow H S H2 S2 → Rp w.K S2 x vx → Rp w.K S2 y vy → r vx vy H2) : tD w f σ H (fun vx H1 => tD w g σ H1 fun vy H2 => r vx vy H2) := by
  refine td_one hS hr h fun x vx H1 S1 p g1 q1 => ?_
  refine td_one g1.in_ (hr.sub g1.s) (post_mono p (fun _ z => z) fun c e => Wh.E.up e g1.h) fun y vy H2 S2 p2 g2 q2 => ?_
  exact hP x y vx vy H2 S2 p2 (g1.trans g2) (Rp.sub g2.s x vx q1) q2
end
end DL

namespace DL
open PySem PySem.Spec PyProof.Rows L2
variable [Tabs]
/-! ### sum, max, min of a tuple of ints -/
/-- everything that stood stands -/
abbrev Stays (g g' : Heap) : Prop := ∀ (b : Addr) (o : Obj), g.get? b = some o → g'.get? b = some o
section
variable {P0 : Program} {w0 : World} {Ar : Around} {Er : Value → Shared → Prop} {z : Shared} {tp : Addr} {Qr : Value → Shared → Prop}
/-- the heap with a tuple's iterator -/
abbrev withIt (z : Shared) (tp : Addr) : Shared := { z with heap := z.heap.push { cls := .type "tuple_iterator", data := .fields #[.ref tp, .int 0 0] } }
theorem iter_tupA {vs : Array Value} (ht : z.heap.IsTuple tp vs)
    (k : (withIt z tp).heap.IsTupleIter z.heap.objs.size tp 0 ∧ (withIt z tp).heap.IsTuple tp vs → (∀ b ∈ [z.heap.objs.size, tp], b < (withIt z tp).heap.objs.size) → tp ≠ z.heap.objs.size → Qr (.ref z.heap.objs.size) (withIt z tp)) :
    wpAny (model P0 w0) Ar (pyIter (.ref tp)) Qr Er z := by
  have below : tp < z.heap.objs.size := by
    obtain ⟨o, eo, _⟩ := ht
    exact Heap.lt_size eo
  have one : (withIt z tp).heap.objs.size = z.heap.objs.size + 1 := Heap.size_push ..
  refine wpAny_pyIter_tuple ht (k ⟨⟨_, Heap.get?_push_size _ rfl, rfl, rfl⟩, ht.push _⟩ (fun b mb => ?_) (Nat.ne_of_lt below))
  rw [one]
  rcases List.mem_cons.mp mb with e | mb
  · subst e; exact Nat.lt_succ_self _
  · have e : b = tp := by simpa using mb
    subst e; exact Nat.lt_succ_of_lt below
theorem stays_it {g' : Heap} (kk : ∀ b o, b ∉ [z.heap.objs.size] → (withIt z tp).heap.get? b = some o → g'.get? b = some o) : Stays z.heap g' := fun b o eb =>
  kk b o (fun mb => by
    have e1 : b = z.heap.objs.size := by simpa using mb
    have lt := Heap.lt_size eb
    rw [e1] at lt
    exact Nat.lt_irrefl _ lt) (Heap.get?_push_of_some _ eb)
/-- the numbers of a tuple of ints -/
theorem tup_nums {vs : List Value} {ks : List Int} (hi : IntsAre vs ks) : ∃ ps : Array (Int × Tok), vs.toArray = intItems ps ∧ ps.toList.map (·.1) = ks := by
  obtain ⟨ps, e⟩ := hi.allInts.items
  refine ⟨ps, e, ?_⟩
  have q : numsOf (vs.toArray).toList = ks := hi.numsOf
  rw [e, nums_intItems] at q
  exact q
theorem sum_tup {vs : List Value} {ks : List Int} (hd : Ar.handled = none) (ht : z.heap.IsTuple tp vs.toArray) (hi : IntsAre vs ks)
    (k : ∀ g' n t, Stays z.heap g' → Qr (.int ks.sum t) { z with heap := g', toks := n }) : wpAny (model P0 w0) Ar (call (.builtin "sum") [.ref tp]) Qr Er z := by
  obtain ⟨ps, e, rfl⟩ := tup_nums hi
  rw [e] at ht
  refine call_sum_walkG (iter_tupA ht fun st fp ne => ⟨_, _, _, _, _, _, numAt ps, rfl, Walks.tuple (A := Ar.in1) hd _ tp ne (intItems ps), st, fp, fun _ _ => intItems_at, fun g' n t kk => ?_⟩)
  have r := k g' n t (stays_it kk)
  have e2 : preSum (numAt ps) ps.size = (ps.toList.map (·.1)).sum := by
    rw [preSum_eq]
    congr 1
    exact List.take_of_length_le (by simp)
  rw [← e2] at r
  simpa [intItems] using r
theorem best_mem {ps : Array (Int × Tok)} {j : Nat} (h : j < ps.size) : numAt ps j ∈ ps.toList.map (·.1) := by
  rw [numAt_eq]
  exact PySem.getD_mem (by simpa using h)
theorem of_best {ps : Array (Int × Tok)} {a : Int} (h : a ∈ ps.toList.map (·.1)) : ∃ j, j < ps.size ∧ numAt ps j = a := by
  obtain ⟨j, lj, ej⟩ := mem_getD h
  exact ⟨j, by simpa using lj, by rw [numAt_eq]; exact ej⟩
theorem max_tup {vs : List Value} {ks : List Int} (hd : Ar.handled = none) (ht : z.heap.IsTuple tp vs.toArray) (hi : IntsAre vs ks) (pos : 0 < ks.length)
    (k : ∀ g' n m t, Stays z.heap g' → m ∈ ks → (∀ a ∈ ks, a ≤ m) → Qr (.int m t) { z with heap := g', toks := n }) : wpAny (model P0 w0) Ar (call (.builtin "max") [.ref tp]) Qr Er z := by
  obtain ⟨ps, e, rfl⟩ := tup_nums hi
  rw [e] at ht
  have some_ : 0 < ps.size := by simpa using pos
  refine call_max_walk (iter_tupA ht fun st fp ne => ⟨_, _, _, _, _, _, _, rfl, Walks.tuple (A := Ar.in1) hd _ tp ne (intItems ps), st, fp, by simpa [intItems] using some_, CmpOf.ints_gt (numAt ps) (fun _ _ => intItems_at), fun v g' n hv kk => ?_⟩)
  obtain ⟨b1, b2⟩ := argBest_gt (numAt ps) (ps.size - 1)
  obtain ⟨t, rfl⟩ := intItems_at (by simpa [intItems] using hv)
  refine k g' n _ t (stays_it kk) (best_mem (Nat.lt_of_le_of_lt b1 (by omega))) fun a ha => ?_
  obtain ⟨j, lj, rfl⟩ := of_best ha
  exact b2 j (by omega)
theorem min_tup {vs : List Value} {ks : List Int} (hd : Ar.handled = none) (ht : z.heap.IsTuple tp vs.toArray) (hi : IntsAre vs ks) (pos : 0 < ks.length)
    (k : ∀ g' n m t, Stays z.heap g' → m ∈ ks → (∀ a ∈ ks, m ≤ a) → Qr (.int m t) { z with heap := g', toks := n }) : wpAny (model P0 w0) Ar (call (.builtin "min") [.ref tp]) Qr Er z := by
  obtain ⟨ps, e, rfl⟩ := tup_nums hi
  rw [e] at ht
  have some_ : 0 < ps.size := by simpa using pos
  refine call_min_walk (iter_tupA ht fun st fp ne => ⟨_, _, _, _, _, _, _, rfl, Walks.tuple (A := Ar.in1) hd _ tp ne (intItems ps), st, fp, by simpa [intItems] using some_, CmpOf.ints_lt (numAt ps) (fun _ _ => intItems_at), fun v g' n hv kk => ?_⟩)
  obtain ⟨b1, b2⟩ := argBest_lt (numAt ps) (ps.size - 1)
  obtain ⟨t, rfl⟩ := intItems_at (by simpa [intItems] using hv)
  refine k g' n _ t (stays_it kk) (best_mem (Nat.lt_of_le_of_lt b1 (by omega))) fun a ha => ?_
  obtain ⟨j, lj, rfl⟩ := of_best ha
  exact b2 j (by omega)
end
section
variable {X : Cx}
theorem one_ref {a : Addr} {us : List Value} (r : Vals [V.ref a] us) : us = [Value.ref a] := by
  cases r with
  | cons r t =>
    cases t
    cases r
    rfl
theorem cr_sumT (hc : X.calm = true) : CallR X (.builtin "sum") (fun vs H Q => ∃ (a : Addr) (ks : List Int), vs = [V.ref a] ∧ SqT X.K H a (ks.map V.int) ∧ Q (.int ks.sum) H) := by
  intro pins s σ H vs us Q I r ⟨a, ks, ev, hs, q⟩
  subst ev
  obtain ⟨its, rv, ht, _⟩ := I.tuple hs
  rw [one_ref r]
  exact sum_tup (I.ok.hd hc) (show s.heap.IsTuple a its.toArray from ht) rv.ints fun g' n t st => ⟨.int _, H, I.kept st, ⟨_, rfl⟩, q⟩
theorem cr_maxT (hc : X.calm = true) : CallR X (.builtin "max") (fun vs H Q => ∃ (a : Addr) (ks : List Int), vs = [V.ref a] ∧ SqT X.K H a (ks.map V.int) ∧ 0 < ks.length ∧ ∀ m, m ∈ ks → (∀ y, y ∈ ks → y ≤ m) → Q (.int m) H) := by
  intro pins s σ H vs us Q I r ⟨a, ks, ev, hs, pos, q⟩
  subst ev
  obtain ⟨its, rv, ht, _⟩ := I.tuple hs
  rw [one_ref r]
  exact max_tup (I.ok.hd hc) (show s.heap.IsTuple a its.toArray from ht) rv.ints pos fun g' n m t st h1 h2 => ⟨.int _, H, I.kept st, ⟨_, rfl⟩, q m h1 h2⟩
theorem cr_minT (hc : X.calm = true) : CallR X (.builtin "min") (fun vs H Q => ∃ (a : Addr) (ks : List Int), vs = [V.ref a] ∧ SqT X.K H a (ks.map V.int) ∧ 0 < ks.length ∧ ∀ m, m ∈ ks → (∀ y, y ∈ ks → m ≤ y) → Q (.int m) H) := by
  intro pins s σ H vs us Q I r ⟨a, ks, ev, hs, pos, q⟩
  subst ev
  obtain ⟨its, rv, ht, _⟩ := I.tuple hs
  rw [one_ref r]
  exact min_tup (I.ok.hd hc) (show s.heap.IsTuple a its.toArray from ht) rv.ints pos fun g' n m t st h1 h2 => ⟨.int _, H, I.kept st, ⟨_, rfl⟩, q m h1 h2⟩
end
end DL
namespace SrtO
open PySem PySem.Spec PyProof.Rows PySem.Calls
/-- a fresh empty list laid, its items put in -/
def coll (h : Heap) (its : Array Value) : Heap := (h.push { cls := .type "list", data := .seq ([] : List Value).toArray }).update h.objs.size (Obj.mapSeq (· ++ its))
theorem coll_size (h : Heap) (its : Array Value) : (coll h its).objs.size = h.objs.size + 1 := by
  unfold coll; rw [Heap.size_update]; exact size_push' _ _
theorem coll_old {h : Heap} {its : Array Value} {b : Addr} {o : Obj} (e : h.get? b = some o) : (coll h its).get? b = some o := by
  unfold coll
  exact (Heap.get?_update_other _ _ (Nat.ne_of_gt (Heap.lt_size e))).trans (Heap.get?_push_of_some _ e)
section
variable {prog : Program} {w : World} {A : Around} {E : Value → Shared → Prop} {s : Shared}
/-- a tuple's items collected -/
theorem collectT {Q : List Value → Shared → Prop} {l : Addr} {o : Obj} {its : Array Value} {n : Nat} (ho : s.heap.get? l = some o) (hc : o.cls = .type "tuple") (hd : o.data = .seq its n) (hz : its.size ≤ sizeLine) (hQ : Q its.toList { s with heap := coll s.heap its }) : wpAny (model prog w) A (collect (.ref l)) Q E s := by
  have l0 : (s.heap.push { cls := .type "list", data := .seq ([] : List Value).toArray }).get? s.heap.objs.size = some { cls := .type "list", data := .seq #[] 0 } := Heap.get?_push_size _ rfl
  have l1 := Heap.get?_update_self (Obj.mapSeq (· ++ its)) l0 rfl
  have last : wpAny (model prog w) A (load s.heap.objs.size >>= fun o => match o.data with
      | .seq xs _ => pure xs.toList
      | _ => unsupported "internal:collect") Q E { s with heap := coll s.heap its } := by
    refine wpAny_bind (wpAny_load l1 (wpAny_pure ?_))
    rw [show ((#[] : Array Value) ++ its).toList = its.toList by simp]; exact hQ
  unfold collect; refine wpAny_bind (wpAny_runValue (codeAny_builtin F.entry_proto_collect ?_))
  rw [Around.under_plainId F.plain_proto_collect _]; show wpAny _ A.in1 (newList [] >>= fun u => again (.builtin "list.__iadd__" ⟨[u, .ref l], []⟩)) _ _ s
  refine wpAny_bind (wpAny_newObj_type (wpAny_pure ⟨plainId_quiet F.plain_list_iadd _, codeAny_builtin F.entry_list_iadd ?_⟩))
  rw [Around.under_plainId F.plain_list_iadd _]; refine wpAny_mono (wpAny_extend_seq (hsz := hz) (A := A) (R := fun r s' => r = .ok (.ret (.ref s.heap.objs.size)) ∧ s' = { s with heap := coll s.heap its }) (s := { s with heap := s.heap.push { cls := .type "list", data := .seq ([] : List Value).toArray } }) _ l _ 0 (.inr rfl) l0 (Heap.get?_push_of_some _ ho) hc hd ⟨rfl, rfl⟩) (fun fin s' h => ?_) (fun e s' h => ?_)
  · cases fin with
    | done f => obtain ⟨e, rfl⟩ := h; cases e; exact last
    | again c' => exact ⟨h.1, codeAny_mono h.2 fun r s'' hr => by obtain ⟨rfl, rfl⟩ := hr; exact last⟩
  · exact absurd h.1 (by simp)
/-- sorted of a tuple -/
theorem sorted_ordT {l : Addr} {vs : List Value} {o : Obj} {n : Nat} {ltv : Value → Value → Bool} {Q : Value → Shared → Prop} (O : Swo ltv) (ho : s.heap.get? l = some o) (hc : o.cls = .type "tuple") (hd : o.data = .seq vs.toArray n) (hz : vs.length ≤ sizeLine)
    (hS : 2 ≤ vs.length → ∀ (g : Heap) (a : Addr), g.get? a = some (seqObj "list" vs.toArray 0) → (∀ b o, s.heap.get? b = some o → b ≠ a ∧ g.get? b = some o) → SortableO prog w A.in1.in1 { s with heap := g } a vs ltv)
    (h : ∀ out : List Value, Srtd ltv out → Stb ltv out vs → Q (.ref (coll s.heap vs.toArray).objs.size) { s with heap := sortedHeap ((coll s.heap vs.toArray).push (seqObj "list" vs.toArray 0)) (coll s.heap vs.toArray).objs.size vs out.toArray }) :
    wpAny (model prog w) A (call (.builtin "sorted") [.ref l]) Q E s := by
  refine Calls.call_function_entry kind_sorted plain_sorted entry_sorted (args_sorted1 _) ?_; unfold Builtin.«sorted»
  refine wpAny_bind (m := checkCount "sorted" 1 1 _) (wpAny_pure ?_); refine wpAny_bind (collectT ho hc hd (by rw [List.size_toArray]; exact hz) ?_)
  refine wpAny_bind (wpAny_newList ?_ hz); have hoL : ((coll s.heap vs.toArray).push (seqObj "list" vs.toArray 0)).get? (coll s.heap vs.toArray).objs.size = some (seqObj "list" vs.toArray 0) := Heap.get?_push_size _ rfl
  have keep : ∀ b o, s.heap.get? b = some o → b ≠ (coll s.heap vs.toArray).objs.size ∧ ((coll s.heap vs.toArray).push (seqObj "list" vs.toArray 0)).get? b = some o := fun b o q => ⟨Nat.ne_of_lt (Heap.lt_size (coll_old q)), Heap.get?_push_of_some _ (coll_old q)⟩
  show wpAny _ _ _ _ _ { s with heap := (coll s.heap vs.toArray).push (seqObj "list" vs.toArray 0) }
  refine wpAny_bind (wpAny_holding (wpAny_call_entry slot_list_sort ⟨_, hoL, rfl⟩ entry_list_sort (list_sort_ord O hoL hz (fun h2 => hS h2 _ _ hoL keep) fun out hs hb => ⟨_, rfl, wpAny_pure ⟨_, rfl, h out hs hb⟩⟩) (args_list_sort _)))
end
end SrtO
namespace L2
open PySem PySem.Spec PyProof.Rows
section
variable {X : Cx}
/-- sorted(xs), a tuple of ints -/
theorem cr_sortedIT : CallR X (.builtin "sorted") (fun vs H Q => ∃ (a : Addr) (ns : List Int), vs = [V.ref a] ∧ SqT X.K H a (ns.map V.int) ∧
    ∀ (ns' : List Int) (p : Addr), ns'.Perm ns → ns'.Pairwise (· ≤ ·) → H p = none → Q (.ref p) (upd H p (.lst (ns'.map V.int)))) := by
  intro pins s σ H vs us Q I r h
  obtain ⟨a, ns, rfl, hs, q⟩ := h
  obtain ⟨its, rv, ⟨⟨cls, dd, data, sl⟩, ho, hc, n, hd⟩, hz⟩ := I.tuple hs
  rw [Vals.ref1 r]
  have hi := rv.ints
  refine SrtO.sorted_ordT SrtO.swo_int ho hc hd (by rw [← rv.length]; exact hz) (fun h2 g a' _ _ => SrtO.ints_sortable hi h2) fun out h1 h2 => ?_
  obtain ⟨k1, k2, k3⟩ := SrtO.ints_out hi h1 h2; generalize eh : SrtO.coll s.heap its.toArray = h'
  have hk : ∀ b o, s.heap.get? b = some o → h'.get? b = some o := fun b o e => by rw [← eh]; exact SrtO.coll_old e
  have hoL : (h'.push (seqObj "list" its.toArray 0)).get? h'.objs.size = some (seqObj "list" its.toArray 0) := Heap.get?_push_size _ rfl
  obtain ⟨ep, he'⟩ := PyProof.Rows.sortedHeap_at (vs := its) (out := out.toArray) hoL
  have hlen : ((out.map SrtO.iv).map V.int).length ≤ sizeLine := by
    rw [List.length_map, k2.length_eq]
    rw [List.length_map] at hz
    exact hz
  have hle : s.heap.objs.size ≤ h'.objs.size := by rw [← eh, SrtO.coll_size]; omega
  exact ⟨.ref _, upd H h'.objs.size (.lst ((out.map SrtO.iv).map V.int)), I.laid (t' := s.toks) (fun b o hb => by
    have hb' := hk b o hb
    rw [PyProof.Rows.sortedHeap_old (Nat.ne_of_lt (Heap.lt_size hb')) (by rw [size_push']; exact Nat.lt_succ_of_lt (Heap.lt_size hb'))]
    exact Heap.get?_push_of_some _ hb') hle ⟨hlen, out, ep, vals_of_ints k1, he'⟩, rfl, q _ _ k2 k3 (I.hok.fresh hle)⟩
end
end L2
namespace DL
open PySem PySem.Spec PyProof.Rows L2
variable [Tabs]
/-! ### rows of whole numbers by their code -/
theorem lexZ_of : ∀ {a b : List Int} {B : Int}, a.length = b.length → TS.Bd B a → TS.Bd B b → TS.code B a ≤ TS.code B b → lexZ a b = true
  | [], [], _, _, _, _, _ => rfl
  | [], _ :: _, _, h, _, _, _ => by simp at h
  | _ :: _, [], _, h, _, _, _ => by simp at h
  | x :: a, y :: b, B, h, h1, h2, hc => by
    unfold lexZ
    have hl : a.length = b.length := by simpa using h
    rcases Int.lt_trichotomy x y with z | z | z
    · rw [if_pos z]
    · subst z
      rw [if_neg (Int.lt_irrefl x), if_neg (Int.lt_irrefl x)]
      refine lexZ_of hl h1.tail h2.tail ?_
      unfold TS.code at hc
      rw [hl] at hc
      omega
    · have := TS.code_lt hl.symm h2.tail h1.tail z
      omega
theorem lexZ_anti : ∀ {a b : List Int}, a.length = b.length → lexZ a b = true → lexZ b a = true → a = b
  | [], [], _, _, _ => rfl
  | [], _ :: _, h, _, _ => by simp at h
  | _ :: _, [], h, _, _ => by simp at h
  | x :: a, y :: b, h, h1, h2 => by
    unfold lexZ at h1 h2
    rcases Int.lt_trichotomy x y with z | z | z
    · rw [if_neg (by omega), if_pos z] at h2; cases h2
    · subst z
      rw [if_neg (Int.lt_irrefl x), if_neg (Int.lt_irrefl x)] at h1 h2
      rw [lexZ_anti (by simpa using h) h1 h2]
    · rw [if_neg (by omega), if_pos z] at h1; cases h1
theorem lexZ_total : ∀ (a b : List Int), lexZ a b = false → lexZ b a = true
  | [], [], h => by cases h
  | [], _ :: _, h => by cases h
  | _ :: _, [], h => rfl
  | x :: a, y :: b, h => by
    unfold lexZ at h ⊢
    rcases Int.lt_trichotomy x y with z | z | z
    · rw [if_pos z] at h; cases h
    · subst z
      rw [if_neg (Int.lt_irrefl x), if_neg (Int.lt_irrefl x)] at h ⊢
      exact lexZ_total a b h
    · rw [if_pos z]
theorem lexZ_trans : ∀ {a b c : List Int}, lexZ a b = true → lexZ b c = true → lexZ a c = true
  | [], [], c, _, h => h
  | [], _ :: _, [], _, h => by cases h
  | [], _ :: _, _ :: _, _, _ => rfl
  | _ :: _, [], _, h, _ => by cases h
  | _ :: _, _ :: _, [], _, h => by cases h
  | x :: a, y :: b, z :: c, h1, h2 => by
    unfold lexZ at h1 h2 ⊢
    by_cases p : x < y
    · by_cases q : y < z
      · rw [if_pos (by omega)]
      · rw [if_neg q] at h2
        by_cases q2 : z < y
        · rw [if_pos q2] at h2; cases h2
        · rw [if_pos (by omega)]
    · rw [if_neg p] at h1
      by_cases p2 : y < x
      · rw [if_pos p2] at h1; cases h1
      · rw [if_neg p2] at h1
        have e : x = y := by omega
        subst e
        by_cases q : x < z
        · rw [if_pos q]
        · rw [if_neg q] at h2 ⊢
          by_cases q2 : z < x
          · rw [if_pos q2] at h2; cases h2
          · rw [if_neg q2] at h2 ⊢
            exact lexZ_trans h1 h2
theorem insL_perm (i : List Int) : ∀ ks : List (List Int), (insL i ks).Perm (i :: ks)
  | [] => .refl _
  | j :: r => by
    unfold insL
    split
    · exact .refl _
    · exact ((insL_perm i r).cons j).trans (.swap i j r)
theorem sortL_perm : ∀ ks : List (List Int), (sortL ks).Perm ks
  | [] => .refl _
  | i :: r => (insL_perm i _).trans ((sortL_perm r).cons i)
theorem insL_rises (i : List Int) : ∀ ks : List (List Int), ks.Pairwise (fun a b => lexZ a b = true) → (insL i ks).Pairwise (fun a b => lexZ a b = true)
  | [], _ => by simp [insL]
  | j :: r, h => by
    rw [List.pairwise_cons] at h
    unfold insL
    split
    · rename_i q
      refine List.pairwise_cons.mpr ⟨fun y hy => ?_, List.pairwise_cons.mpr h⟩
      rcases List.mem_cons.mp hy with e | e
      · rw [e]; exact q
      · exact lexZ_trans q (h.1 y e)
    · rename_i q
      refine List.pairwise_cons.mpr ⟨fun y hy => ?_, insL_rises i r h.2⟩
      rcases List.mem_cons.mp ((insL_perm i r).mem_iff.mp hy) with e | e
      · rw [e]; exact lexZ_total _ _ (by simpa using q)
      · exact h.1 y e
theorem sortL_rises : ∀ ks : List (List Int), (sortL ks).Pairwise (fun a b => lexZ a b = true)
  | [] => .nil
  | i :: r => insL_rises i _ (sortL_rises r)
/-- the data along a list laid in another order -/
theorem RpA.perm {K : PySem.W.Frag} {S : Hp} {β : Type} {f : β → PyData} {vs us : List V} (h : us.Perm vs) : ∀ {bs : List β}, RpA K S (bs.map f) vs → ∃ cs : List β, cs.Perm bs ∧ RpA K S (cs.map f) us := by
  induction h with
  | nil => intro bs q; exact ⟨bs, .refl _, q⟩
  | cons x h ih =>
    intro bs q
    cases bs with
    | nil => simp only [List.map_nil, RpA] at q; cases q
    | cons b bs =>
      simp only [List.map_cons, RpA] at q
      obtain ⟨v, r, e, q1, q2⟩ := q
      cases e
      obtain ⟨cs, p, q3⟩ := ih q2
      exact ⟨b :: cs, p.cons b, by simp only [List.map_cons, RpA]; exact ⟨_, _, rfl, q1, q3⟩⟩
  | swap x y l =>
    intro bs q
    cases bs with
    | nil => simp only [List.map_nil, RpA] at q; cases q
    | cons b bs =>
      simp only [List.map_cons, RpA] at q
      obtain ⟨v, r, e, q1, q2⟩ := q
      cases e
      cases bs with
      | nil => simp only [List.map_nil, RpA] at q2; cases q2
      | cons b2 bs =>
        simp only [List.map_cons, RpA] at q2
        obtain ⟨v, r, e, q3, q4⟩ := q2
        cases e
        exact ⟨b2 :: b :: bs, .swap _ _ _, by simp only [List.map_cons, RpA]; exact ⟨_, _, rfl, q3, _, _, rfl, q1, q4⟩⟩
  | trans h1 h2 ih1 ih2 =>
    intro bs q
    obtain ⟨cs, p, q1⟩ := ih2 q
    obtain ⟨ds, p2, q2⟩ := ih1 q1
    exact ⟨ds, p2.trans p, q2⟩
/-- a row of whole numbers as a tuple -/
def tupD (ns : List Int) : PyData := .tuple (ns.map PyData.int)
theorem ints_map : ∀ {xs : List PyData} {ns : List Int}, intsOf xs = some ns → xs = ns.map PyData.int
  | [], ns, h => by cases h; rfl
  | x :: xs, ns, h => by
    cases x <;> simp only [intsOf] at h <;> try cases h
    cases e : intsOf xs with
    | none => rw [e] at h; cases h
    | some ms =>
      rw [e] at h
      cases h
      rw [List.map_cons, ints_map e]
theorem tups_map {d : Nat} : ∀ {xs : List PyData} {nss : List (List Int)}, tupsOf d xs = some nss → xs = nss.map tupD ∧ ∀ ns ∈ nss, ns.length = d ∧ TS.Bd 1048576 ns
  | [], nss, h => by cases h; exact ⟨rfl, fun ns hn => by cases hn⟩
  | x :: xs, nss, h => by
    cases x <;> simp only [tupsOf] at h <;> try cases h
    rename_i ts
    cases e : intsOf ts with
    | none => rw [e] at h; cases h
    | some ns =>
      cases e2 : tupsOf d xs with
      | none => rw [e, e2] at h; cases h
      | some mss =>
        rw [e, e2] at h
        dsimp only at h
        split at h
        · rename_i q
          cases h
          simp only [Bool.and_eq_true, decide_eq_true_eq, List.all_eq_true] at q
          obtain ⟨a1, a2⟩ := tups_map e2
          refine ⟨by rw [List.map_cons, ← a1, tupD, ← ints_map e], fun ms hm => ?_⟩
          rcases List.mem_cons.mp hm with z | z
          · subst z; exact ⟨q.1, fun m hm => q.2 m hm⟩
          · exact a2 ms z
        · cases h
theorem tupI_of {K : PySem.W.Frag} {S H : Hp} {ns : List Int} {v : V} (hs : Sub S H) (h : Rp K S (tupD ns) v) : TupI K H v ns := by
  simp only [tupD, Rp] at h
  obtain ⟨a, us, e, q1, q2⟩ := h
  have e2 : us = ns.map V.int := by
    have : ∀ {ns : List Int} {us : List V}, RpA K S (ns.map PyData.int) us → us = ns.map V.int := by
      intro ns
      induction ns with
      | nil => intro us q; simp only [List.map_nil, RpA] at q; exact q
      | cons n ns ih =>
        intro us q
        simp only [List.map_cons, RpA, Rp] at q
        obtain ⟨v, r, e, e1, q⟩ := q
        rw [e, e1, ih q, List.map_cons]
    exact this q2
  subst e2
  exact ⟨a, e, SqT.sub hs q1⟩
theorem tups_mem {K : PySem.W.Frag} {S H : Hp} (hs : Sub S H) : ∀ {nss : List (List Int)} {vs : List V}, RpA K S (nss.map tupD) vs → ∀ x ∈ vs, ∃ ns ∈ nss, TupI K H x ns
  | [], vs, q, x, hx => by simp only [List.map_nil, RpA] at q; subst q; cases hx
  | ns :: nss, vs, q, x, hx => by
    simp only [List.map_cons, RpA] at q
    obtain ⟨v, r, e, q1, q2⟩ := q
    subst e
    rcases List.mem_cons.mp hx with z | z
    · subst z; exact ⟨ns, List.mem_cons_self, tupI_of hs q1⟩
    · obtain ⟨ms, h1, h2⟩ := tups_mem hs q2 x z
      exact ⟨ms, List.mem_cons_of_mem _ h1, h2⟩
theorem tups_rise {K : PySem.W.Frag} {S H : Hp} {d : Nat} (hs : Sub S H) : ∀ {nss : List (List Int)} {vs : List V}, RpA K S (nss.map tupD) vs → (∀ ns ∈ nss, ns.length = d ∧ TS.Bd 1048576 ns) →
    vs.Pairwise (fun x y => ∀ n m, TupI K H x n → TupI K H y m → TS.code 1048576 n ≤ TS.code 1048576 m) → nss.Pairwise (fun a b => lexZ a b = true)
  | [], vs, q, _, _ => .nil
  | ns :: nss, vs, q, hb, hp => by
    simp only [List.map_cons, RpA] at q
    obtain ⟨v, r, e, q1, q2⟩ := q
    subst e
    rw [List.pairwise_cons] at hp ⊢
    have key : ∀ {mss : List (List Int)} {us : List V}, RpA K S (mss.map tupD) us → (∀ ms ∈ mss, ms.length = d ∧ TS.Bd 1048576 ms) → (∀ y ∈ us, ∀ n m, TupI K H v n → TupI K H y m → TS.code 1048576 n ≤ TS.code 1048576 m) → ∀ ms ∈ mss, lexZ ns ms = true := by
      intro mss
      induction mss with
      | nil => intro us _ _ _ ms hm; cases hm
      | cons m0 mss ih =>
        intro us z hb2 hc ms hm
        simp only [List.map_cons, RpA] at z
        obtain ⟨u, r2, e2, z1, z2⟩ := z
        subst e2
        rcases List.mem_cons.mp hm with y | y
        · subst y
          have c := hc u List.mem_cons_self _ _ (tupI_of hs q1) (tupI_of hs z1)
          obtain ⟨l1, b1⟩ := hb ns List.mem_cons_self
          obtain ⟨l2, b2⟩ := hb2 ms List.mem_cons_self
          exact lexZ_of (by rw [l1, l2]) b1 b2 c
        · exact ih z2 (fun k hk => hb2 k (List.mem_cons_of_mem _ hk)) (fun k hk => hc k (List.mem_cons_of_mem _ hk)) ms y
    exact ⟨key q2 (fun k hk => hb k (List.mem_cons_of_mem _ hk)) hp.1, tups_rise hs q2 (fun k hk => hb k (List.mem_cons_of_mem _ hk)) hp.2⟩
theorem sortL_is {d : Nat} {cs bs : List (List Int)} (h1 : cs.Perm bs) (hb : ∀ ns ∈ bs, ns.length = d ∧ TS.Bd 1048576 ns) (h2 : cs.Pairwise (fun a b => lexZ a b = true)) : cs = sortL bs :=
  List.Perm.eq_of_pairwise (fun a b ha hb' x y => lexZ_anti (by rw [(hb a (h1.mem_iff.mp ha)).1, (hb b ((sortL_perm bs).mem_iff.mp hb')).1]) x y) h2 (sortL_rises bs) (h1.trans (sortL_perm bs).symm)
end DL
namespace DL
open PySem PySem.Spec PyProof.Rows L2
variable [Tabs]

theorem bigLine : big ≤ sizeLine := by rw [sizeLine_eq]; decide
theorem bigLt : big < sizeLine := by rw [sizeLine_eq]; decide

/-! ### operators over data -/
def rB (K : PySem.W.Frag) (o : Bop) : R2 := fun x y H Q => ∃ S dx dy, In S H ∧ Rp K S dx x ∧ Rp K S dy y ∧ post (binD o dx dy) (fun d => ∀ v H' S', Grow H S H' S' → Rp K S' d v → Q v H') (fun _ => False)
def rC (K : PySem.W.Frag) (o : Cop) : R2 := fun x y H Q => ∃ S dx dy, In S H ∧ Rp K S dx x ∧ Rp K S dy y ∧ post (cmpD o dx dy) (fun b => Q (.bl b) H) (fun _ => False)
def Bop.op : Bop → Operator
  | .add => .Add
  | .sub => .Sub
  | .mul => .Mult
  | .fdiv => .FloorDiv
  | .mod => .Mod
  | .pow => .Pow
  | .shl => .LShift
  | .shr => .RShift
  | .band => .BitAnd
  | .bxor => .BitXor
def Cop.op : Cop → CmpOp
  | .lt => .Lt
  | .le => .LtE
  | .gt => .Gt
  | .ge => .GtE
  | .eq => .Eq
  | .ne => .NotEq
  | .is_ => .Is
  | .isnot => .IsNot
  | .in_ => .In
  | .notin => .NotIn

section
variable {X : Cx}
theorem rp_int {K : PySem.W.Frag} {S : Hp} {i : Int} {v : V} (h : Rp K S (.int i) v) : v = .int i := by simpa only [Rp] using h
theorem rp_bool {K : PySem.W.Frag} {S : Hp} {i : Bool} {v : V} (h : Rp K S (.bool i) v) : v = .bl i := by simpa only [Rp] using h
theorem rp_str {K : PySem.W.Frag} {S : Hp} {i : Str} {v : V} (h : Rp K S (.str i) v) : v = .str i := by simpa only [Rp] using h
theorem rp_none {K : PySem.W.Frag} {S : Hp} {v : V} (h : Rp K S .none v) : v = .non := by simpa only [Rp] using h
theorem rpI {K : PySem.W.Frag} {S : Hp} (i : Int) : Rp K S (.int i) (.int i) := by simp only [Rp]
theorem rpB {K : PySem.W.Frag} {S : Hp} (i : Bool) : Rp K S (.bool i) (.bl i) := by simp only [Rp]
theorem rpS {K : PySem.W.Frag} {S : Hp} (i : Str) : Rp K S (.str i) (.str i) := by simp only [Rp]
theorem rpN {K : PySem.W.Frag} {S : Hp} : Rp K S .none .non := by simp only [Rp]
theorem post_if {α : Type} {c : Prop} [Decidable c] {a : α} {P : α → Prop} {E : Nat → Prop} (h : post (if c then R.ok a else R.bad) P E) : c ∧ P a := by
  by_cases q : c
  · rw [if_pos q] at h; exact ⟨q, h⟩
  · rw [if_neg q] at h; exact h.elim

theorem two64 : (2 : Int) ^ 64 = 18446744073709551616 := by decide
theorem two64n : 2 ^ 64 = 18446744073709551616 := by decide
theorem twoPow (n : Nat) : ((2 ^ n : Nat) : Int) = 2 ^ n := by
  rw [Int.natCast_pow]; rfl
theorem smallI_ok {i : Int} (h : smallI i = true) : -(2 ^ 64) < i ∧ i < 2 ^ 64 := by
  have h := Nat.blt_eq.mp h
  rw [two64]
  omega
theorem mulOk_ok {i j : Int} (h : mulOk i j = true) : CMul i j ∨ CMulW i j := by
  unfold mulOk at h
  simp only [Bool.or_eq_true, decide_eq_true_eq] at h
  rcases h with (h | h) | h
  · exact .inl (.inl (smallI_ok h))
  · exact .inl (.inr (smallI_ok h))
  · exact .inr h

theorem opr_add : OpR X (binaryOp .Add) (rB X.K .add) := by
  intro pins s σ H x y v u Q I rx ry ⟨S, dx, dy, hS, hx, hy, h⟩
  cases dx <;> cases dy <;> simp only [binD] at h <;> try exact h.elim
  · rename_i i j
    cases rp_int hx; cases rp_int hy
    exact op_add pins s σ H _ _ v u Q I rx ry ⟨i, j, rfl, rfl, h _ H S (Grow.refl hS) (rpI _)⟩
  · rename_i i j
    obtain ⟨hz, h⟩ := post_if h
    cases rp_str hx; cases rp_str hy
    exact op_add_str pins s σ H _ _ v u Q I rx ry ⟨i, j, rfl, rfl, Nat.le_trans hz bigLine, h _ H S (Grow.refl hS) (rpS _)⟩
  · rename_i xs ys
    obtain ⟨hz, h⟩ := post_if h
    simp only [Rp] at hx hy
    obtain ⟨a, vs, rfl, ha, ra⟩ := hx
    obtain ⟨b, us, rfl, hb, rb⟩ := hy
    have hl : vs.length + us.length ≤ sizeLine := by rw [ra.length, rb.length]; exact Nat.le_trans hz bigLine
    exact op_cat pins s σ H _ _ v u Q I rx ry ⟨a, b, vs, us, rfl, rfl, hS _ _ ha, hS _ _ hb, hl, fun p hp =>
      h _ _ _ (Grow.laid hS hp _) (Rp.lst upd_same ((RpA.append ra rb).sub (sub_upd (hS.no hp))))⟩
  · rename_i xs ys
    obtain ⟨hz, h⟩ := post_if h
    simp only [Rp] at hx hy
    obtain ⟨a, vs, rfl, ha, ra⟩ := hx
    obtain ⟨b, us, rfl, hb, rb⟩ := hy
    have hl : vs.length + us.length ≤ sizeLine := by rw [ra.length, rb.length]; exact Nat.le_trans hz bigLine
    refine op_catA pins s σ H _ _ v u Q I rx ry ⟨a, b, vs, us, rfl, rfl, (SqT.sub hS.sub ha), (SqT.sub hS.sub hb), hl, fun e => ?_, fun e e2 => ?_, fun e e2 p hp => ?_⟩
    · subst e
      have ex : xs = [] := List.length_eq_zero_iff.mp ra.length.symm
      subst ex
      refine h _ H S (Grow.refl hS) ?_
      simp only [Rp]
      exact ⟨b, us, rfl, hb, rb⟩
    · subst e2
      have ex : ys = [] := List.length_eq_zero_iff.mp rb.length.symm
      subst ex
      refine h _ H S (Grow.refl hS) ?_
      rw [List.append_nil]
      simp only [Rp]
      exact ⟨a, vs, rfl, ha, ra⟩
    · exact h _ _ _ (Grow.laid hS hp _) (Rp.tup upd_same ((RpA.append ra rb).sub (sub_upd (hS.no hp))))
theorem opr_sub : OpR X (binaryOp .Sub) (rB X.K .sub) := by
  intro pins s σ H x y v u Q I rx ry ⟨S, dx, dy, hS, hx, hy, h⟩
  cases dx <;> cases dy <;> simp only [binD] at h <;> try exact h.elim
  rename_i i j
  cases rp_int hx; cases rp_int hy
  exact op_sub pins s σ H _ _ v u Q I rx ry ⟨i, j, rfl, rfl, h _ H S (Grow.refl hS) (rpI _)⟩

theorem tuple_mul1 (l : Addr) (items : Array Value) (n : Nat) (dd : Option Addr) (sl : Array (Option Value)) (u : Tok) (c1 : (items.isEmpty || ((1 : Int) == 1)) = true) :
    Meets (Builtin.«tuple.__mul__» ⟨[.ref l, .int 1 u], []⟩) (fun _ R s => s.heap.get? l = some { cls := .type "tuple", dict := dd, data := .seq items n, slots := sl } ∧
      R (.ok (.ret (Value.ref l))) s) :=
  .of_wp fun prog w A R s h => by
    obtain ⟨hp, g, d, tk, os⟩ := s
    obtain ⟨hl, h⟩ := h
    have f1 := AutoSeq1.idx_int
    wp_walk using wpAny_loadPart' hl
    exact ⟨_, rfl, h⟩
/-- xs * 1 of a tuple is the tuple -/
theorem op_rep1 : OpR X (binaryOp .Mult) (fun x y H Q => ∃ l xs, x = .ref l ∧ y = .int 1 ∧ SqT X.K H l xs ∧ xs ≠ [] ∧ Q (.ref l) H) := by
  intro pins s σ H x y v u Q I rx ry ⟨l, xs, ex, ey, hT, hne, q⟩
  subst ex ey
  cases rx
  obtain ⟨t, rfl⟩ := ry
  obtain ⟨its, r, ⟨⟨cls, dd, data, sl⟩, ho, hc, n, hd⟩, hs⟩ := I.tuple hT
  simp only at hc hd
  subst hc hd
  refine wpAny_binaryOp_repeat_ref (T := "tuple") (U := "int") (by decide) ⟨_, ho, rfl⟩ (fun s' => typeIs_int s' 1 t) noFill_tuple_mul F.fills_int_mul F.slot_int_rmul repeat_tuple F.slot_int_index.lookup
    (call_meets F.slot_int_rmul (typeIs_int s 1 t) F.entry_int_rmul (F.args_int_rmul_2 _ _) (int_rmul_tuple 1 t l its.toArray n dd sl)
      ⟨ho, rfl, ⟨_, ho, rfl⟩, call_meets F.slot_tuple_mul ⟨_, ho, rfl⟩ F.entry_tuple_mul (F.args_tuple_mul_2 _ _) (tuple_mul1 l its.toArray n dd sl t (by simp)) ⟨ho, ?_⟩⟩)
  exact ⟨.ref l, H, I, rfl, q⟩
theorem tuple_mul0 (l : Addr) (items : Array Value) (n : Nat) (dd : Option Addr) (sl : Array (Option Value)) (x : Int) (u : Tok) (c0 : (decide (x < -(2 ^ 63)) || decide (x ≥ 2 ^ 63)) = false) (c1 : (items.isEmpty || x == 1) = false) (c2 : (decide (x ≤ 0) || items.isEmpty) = true) :
    Meets (Builtin.«tuple.__mul__» ⟨[.ref l, .int x u], []⟩) (fun _ R s => s.heap.get? l = some { cls := .type "tuple", dict := dd, data := .seq items n, slots := sl } ∧
      R (.ok (.ret (Value.ref s.heap.objs.size))) { s with heap := s.heap.push { cls := Value.type "tuple", data := Data.seq #[] }, toks := s.toks }) :=
  .of_wp fun prog w A R s h => by
    obtain ⟨hp, g, d, tk, os⟩ := s
    obtain ⟨hl, h⟩ := h
    have f1 := AutoSeq1.idx_int
    wp_walk using wpAny_loadPart' hl
    repeat (first
      | (refine wpAny_ite_false (decide_eq_false (by rw [c0]; exact Bool.false_ne_true)) ?_; wp_walk using wpAny_loadPart' hl)
      | (refine wpAny_ite_false (decide_eq_false (by rw [c1]; exact Bool.false_ne_true)) ?_; wp_walk using wpAny_loadPart' hl)
      | (refine wpAny_ite_true (decide_eq_true c2) ?_; wp_walk using wpAny_loadPart' hl))
    exact ⟨_, rfl, h⟩
/-- xs * k of a tuple, k not above 0 -/
theorem op_rep0 : OpR X (binaryOp .Mult) (fun x y H Q => ∃ l k xs, x = .ref l ∧ y = .int k ∧ SqT X.K H l xs ∧ xs ≠ [] ∧ k ≤ 0 ∧ -1000 ≤ k ∧ ∀ p, H p = none → Q (.ref p) (upd H p (.tup []))) := by
  intro pins s σ H x y v u Q I rx ry ⟨l, k, xs, ex, ey, hT, hne, h1, h2, q⟩
  subst ex ey
  cases rx
  obtain ⟨t, rfl⟩ := ry
  obtain ⟨its, r, ⟨⟨cls, dd, data, sl⟩, ho, hc, n, hd⟩, hs⟩ := I.tuple hT
  simp only at hc hd
  subst hc hd
  have hle : its.length = xs.length := r.length.symm
  have hn : its ≠ [] := fun e => hne (by
    rw [e] at hle
    exact List.eq_nil_of_length_eq_zero hle.symm)
  have hi : its.toArray.isEmpty = false := by
    cases its with
    | nil => exact absurd rfl hn
    | cons a b => rfl
  have c0 : (decide (k < -(2 ^ 63)) || decide (k ≥ 2 ^ 63)) = false := by
    rw [decide_eq_false (by omega), decide_eq_false (by omega)] <;> rfl
  have c1 : (its.toArray.isEmpty || k == 1) = false := by
    rw [hi, Bool.false_or]
    exact beq_eq_false_iff_ne.mpr (by omega)
  have c2 : (decide (k ≤ 0) || its.toArray.isEmpty) = true := by
    rw [decide_eq_true h1, Bool.true_or]
  refine wpAny_binaryOp_repeat_ref (T := "tuple") (U := "int") (by decide) ⟨_, ho, rfl⟩ (fun s' => typeIs_int s' k t) noFill_tuple_mul F.fills_int_mul F.slot_int_rmul repeat_tuple F.slot_int_index.lookup
    (call_meets F.slot_int_rmul (typeIs_int s k t) F.entry_int_rmul (F.args_int_rmul_2 _ _) (int_rmul_tuple k t l its.toArray n dd sl)
      ⟨ho, rfl, ⟨_, ho, rfl⟩, call_meets F.slot_tuple_mul ⟨_, ho, rfl⟩ F.entry_tuple_mul (F.args_tuple_mul_2 _ _) (tuple_mul0 l its.toArray n dd sl k t c0 c1 c2) ⟨ho, ?_⟩⟩)
  refine ⟨.ref s.heap.objs.size, _, I.laid (t' := s.toks) (o := .tup []) (fun b ob q => Heap.get?_push_of_some _ q) (Nat.le_refl _) ?_, rfl, q _ (I.hok.fresh (Nat.le_refl _))⟩
  exact ⟨by rw [sizeLine_eq]; decide, _, .nil, IsTup.new _ _⟩
theorem opr_mul : OpR X (binaryOp .Mult) (rB X.K .mul) := by
  intro pins s σ H x y v u Q I rx ry ⟨S, dx, dy, hS, hx, hy, h⟩
  cases dx <;> cases dy <;> simp only [binD] at h <;> try exact h.elim
  · rename_i i j
    obtain ⟨hz, h⟩ := post_if h
    cases rp_int hx; cases rp_int hy
    rcases mulOk_ok hz with q | q
    · exact op_mul pins s σ H _ _ v u Q I rx ry ⟨i, j, rfl, rfl, q, h _ H S (Grow.refl hS) (rpI _)⟩
    · exact op_mulW pins s σ H _ _ v u Q I rx ry ⟨i, j, rfl, rfl, q, h _ H S (Grow.refl hS) (rpI _)⟩
  · rename_i xs k
    obtain ⟨⟨z1, z2, z3⟩, h⟩ := post_if h
    simp only [Rp] at hx
    obtain ⟨a, vs, rfl, ha, ra⟩ := hx
    cases rp_int hy
    have hl : vs.length * k.toNat ≤ sizeLine := by rw [ra.length]; exact Nat.le_trans z3 bigLine
    exact op_rep pins s σ H _ _ v u Q I rx ry ⟨a, k, vs, rfl, rfl, hS _ _ ha, by omega, by omega, hl, fun p hp =>
      h _ _ _ (Grow.laid hS hp _) (Rp.lst upd_same ((RpA.rep ra k.toNat).sub (sub_upd (hS.no hp))))⟩
  · rename_i xs k
    obtain ⟨⟨z1, z2, z3, z4⟩, h⟩ := post_if h
    simp only [Rp] at hx
    obtain ⟨a, vs, rfl, ha, ra⟩ := hx
    cases rp_int hy
    have hne : vs ≠ [] := fun e => by
      subst e
      have ex : xs = [] := List.length_eq_zero_iff.mp ra.length.symm
      subst ex
      cases z4
    by_cases k0 : k ≤ 0
    · refine op_rep0 pins s σ H _ _ v u Q I rx ry ⟨a, k, vs, rfl, rfl, (SqT.sub hS.sub ha), hne, k0, z2, fun p hp => h _ _ _ (Grow.laid hS hp _) ?_⟩
      have e : k.toNat = 0 := by omega
      rw [e]
      exact Rp.tup upd_same (by simp only [repL, List.replicate_zero, List.flatten_nil, RpA])
    by_cases k1 : k = 1
    · subst k1
      refine op_rep1 pins s σ H _ _ v u Q I rx ry ⟨a, vs, rfl, rfl, (SqT.sub hS.sub ha), hne, h _ H S (Grow.refl hS) ?_⟩
      have e : repL xs (1 : Int).toNat = xs := by show ([xs] : List (List PyData)).flatten = xs; simp
      rw [e]
      simp only [Rp]
      exact ⟨a, vs, rfl, ha, ra⟩
    · exact op_repT pins s σ H _ _ v u Q I rx ry ⟨a, k, vs, rfl, rfl, (SqT.sub hS.sub ha), hne, by omega, z1, by rw [ra.length]; exact z3, fun p hp =>
        h _ _ _ (Grow.laid hS hp _) (Rp.tup upd_same ((RpA.rep ra k.toNat).sub (sub_upd (hS.no hp))))⟩
theorem opr_fdiv : OpR X (binaryOp .FloorDiv) (rB X.K .fdiv) := by
  intro pins s σ H x y v u Q I rx ry ⟨S, dx, dy, hS, hx, hy, h⟩
  cases dx <;> cases dy <;> simp only [binD] at h <;> try exact h.elim
  rename_i i j
  obtain ⟨⟨z1, z2⟩, h⟩ := post_if h
  cases rp_int hx; cases rp_int hy
  exact op_fdivW pins s σ H _ _ v u Q I rx ry ⟨i, j, rfl, rfl, ⟨z1, z2⟩, h _ H S (Grow.refl hS) (rpI _)⟩
theorem opr_mod : OpR X (binaryOp .Mod) (rB X.K .mod) := by
  intro pins s σ H x y v u Q I rx ry ⟨S, dx, dy, hS, hx, hy, h⟩
  by_cases hd : ∃ kvs, dx = .dict kvs
  · obtain ⟨kvs, rfl⟩ := hd
    simp only [Rp] at hx
    obtain ⟨a, ns, e0, _, _⟩ := hx
    subst e0
    cases dy <;> exact h.elim
  cases dx <;> cases dy <;> first | (exact absurd ⟨_, rfl⟩ hd) | skip
  all_goals simp only [binD] at h
  all_goals try exact h.elim
  rename_i i j
  obtain ⟨z1, h⟩ := post_if h
  cases rp_int hx; cases rp_int hy
  exact op_mod pins s σ H _ _ v u Q I rx ry ⟨i, j, rfl, rfl, z1, h _ H S (Grow.refl hS) (rpI _)⟩
theorem opr_pow : OpR X (binaryOp .Pow) (rB X.K .pow) := by
  intro pins s σ H x y v u Q I rx ry ⟨S, dx, dy, hS, hx, hy, h⟩
  cases dx <;> cases dy <;> simp only [binD] at h <;> try exact h.elim
  rename_i i j
  obtain ⟨z1, h⟩ := post_if h
  cases rp_int hx; cases rp_int hy
  exact op_pow pins s σ H _ _ v u Q I rx ry ⟨i, j, rfl, rfl, ⟨z1.1, z1.2.1, by rw [two64n]; exact z1.2.2⟩, h _ H S (Grow.refl hS) (rpI _)⟩
theorem opr_shl : OpR X (binaryOp .LShift) (rB X.K .shl) := by
  intro pins s σ H x y v u Q I rx ry ⟨S, dx, dy, hS, hx, hy, h⟩
  cases dx <;> cases dy <;> simp only [binD] at h <;> try exact h.elim
  rename_i i j
  obtain ⟨z1, h⟩ := post_if h
  cases rp_int hx; cases rp_int hy
  rw [twoPow] at h
  exact op_shl pins s σ H _ _ v u Q I rx ry ⟨i, j, rfl, rfl, ⟨z1.1, z1.2.1, by rw [two64n]; exact z1.2.2⟩, h _ H S (Grow.refl hS) (rpI _)⟩
theorem opr_shr : OpR X (binaryOp .RShift) (rB X.K .shr) := by
  intro pins s σ H x y v u Q I rx ry ⟨S, dx, dy, hS, hx, hy, h⟩
  cases dx <;> cases dy <;> simp only [binD] at h <;> try exact h.elim
  rename_i i j
  obtain ⟨z1, h⟩ := post_if h
  cases rp_int hx; cases rp_int hy
  rw [twoPow] at h
  exact op_shr pins s σ H _ _ v u Q I rx ry ⟨i, j, rfl, rfl, z1, h _ H S (Grow.refl hS) (rpI _)⟩
theorem opr_band : OpR X (binaryOp .BitAnd) (rB X.K .band) := by
  intro pins s σ H x y v u Q I rx ry ⟨S, dx, dy, hS, hx, hy, h⟩
  cases dx <;> cases dy <;> simp only [binD] at h <;> try exact h.elim
  rename_i i j
  cases rp_int hx; cases rp_int hy
  exact op_and pins s σ H _ _ v u Q I rx ry ⟨i, j, rfl, rfl, h _ H S (Grow.refl hS) (rpI _)⟩
theorem opr_bxor : OpR X (binaryOp .BitXor) (rB X.K .bxor) := by
  intro pins s σ H x y v u Q I rx ry ⟨S, dx, dy, hS, hx, hy, h⟩
  cases dx <;> cases dy <;> simp only [binD] at h <;> try exact h.elim
  rename_i i j
  cases rp_int hx; cases rp_int hy
  exact op_xor pins s σ H _ _ v u Q I rx ry ⟨i, j, rfl, rfl, h _ H S (Grow.refl hS) (rpI _)⟩

/-! ### comparisons -/
theorem cpr_lt : OpR X (compareOp .Lt) (rC X.K .lt) := by
  intro pins s σ H x y v u Q I rx ry ⟨S, dx, dy, hS, hx, hy, h⟩
  cases dx <;> cases dy <;> simp only [cmpD] at h <;> try exact h.elim
  rename_i i j
  cases rp_int hx; cases rp_int hy
  exact op_lt pins s σ H _ _ v u Q I rx ry ⟨i, j, rfl, rfl, h⟩
theorem cpr_le : OpR X (compareOp .LtE) (rC X.K .le) := by
  intro pins s σ H x y v u Q I rx ry ⟨S, dx, dy, hS, hx, hy, h⟩
  cases dx <;> cases dy <;> simp only [cmpD] at h <;> try exact h.elim
  rename_i i j
  cases rp_int hx; cases rp_int hy
  exact op_le pins s σ H _ _ v u Q I rx ry ⟨i, j, rfl, rfl, h⟩
theorem cpr_gt : OpR X (compareOp .Gt) (rC X.K .gt) := by
  intro pins s σ H x y v u Q I rx ry ⟨S, dx, dy, hS, hx, hy, h⟩
  cases dx <;> cases dy <;> simp only [cmpD] at h <;> try exact h.elim
  rename_i i j
  cases rp_int hx; cases rp_int hy
  exact op_gt pins s σ H _ _ v u Q I rx ry ⟨i, j, rfl, rfl, h⟩
theorem cpr_ge : OpR X (compareOp .GtE) (rC X.K .ge) := by
  intro pins s σ H x y v u Q I rx ry ⟨S, dx, dy, hS, hx, hy, h⟩
  cases dx <;> cases dy <;> simp only [cmpD] at h <;> try exact h.elim
  rename_i i j
  cases rp_int hx; cases rp_int hy
  exact op_ge pins s σ H _ _ v u Q I rx ry ⟨i, j, rfl, rfl, h⟩
theorem canLay_of {d : PyData} (h : SeqAt.shaped d = true) : d.canLay0 = true := SeqAt.canLay_of_shaped h
theorem eqv_int (i j : Int) : PyData.eqv (.int i) (.int j) = (i == j) := by simp only [PyData.eqv]
theorem eqv_bool (i j : Bool) : PyData.eqv (.bool i) (.bool j) = (i == j) := by simp only [PyData.eqv]
theorem eqv_none : PyData.eqv .none .none = true := by simp only [PyData.eqv]
theorem shaped_int (i : Int) : SeqAt.shaped (.int i) = true := by simp [SeqAt.shaped, PyData.canLay0, PyData.depth]
theorem shaped_bool (i : Bool) : SeqAt.shaped (.bool i) = true := by simp [SeqAt.shaped, PyData.canLay0, PyData.depth]
theorem shaped_none : SeqAt.shaped .none = true := by simp [SeqAt.shaped, PyData.canLay0, PyData.depth]
theorem eqD_ok {a b : PyData} {P : Bool → Prop} {E : Nat → Prop} (hE : ∀ c, ¬ E c) (h : post (eqD a b) P E) : SeqAt.shaped a = true ∧ SeqAt.shaped b = true ∧ P (PyData.eqv a b) := by
  unfold eqD at h
  split at h
  · exact ⟨shaped_int _, shaped_int _, by rw [eqv_int]; exact h⟩
  · exact ⟨shaped_bool _, shaped_bool _, by rw [eqv_bool]; exact h⟩
  · exact ⟨shaped_none, shaped_none, by rw [eqv_none]; exact h⟩
  · obtain ⟨hc, h⟩ := post_if h
    rw [Bool.and_eq_true] at hc
    exact ⟨hc.1, hc.2, h⟩
theorem cpr_eq (hu : X.A.units + 64 < cLine) : OpR X (compareOp .Eq) (rC X.K .eq) := by
  intro pins s σ H x y v u Q I rx ry ⟨S, dx, dy, hS, hx, hy, h⟩
  simp only [cmpD] at h
  obtain ⟨s1, s2, q⟩ := eqD_ok (fun _ z => z) h
  exact op_eqD hu pins s σ H _ _ v u Q I rx ry ⟨dx, dy, Rp.dp dx x (canLay_of s1) (Rp.sub hS.sub dx x hx), Rp.dp dy y (canLay_of s2) (Rp.sub hS.sub dy y hy), s1, s2, q⟩
theorem cpr_ne (hu : X.A.units + 64 < cLine) : OpR X (compareOp .NotEq) (rC X.K .ne) := by
  intro pins s σ H x y v u Q I rx ry ⟨S, dx, dy, hS, hx, hy, h⟩
  simp only [cmpD, post_bind] at h
  obtain ⟨s1, s2, q⟩ := eqD_ok (fun _ z => z) h
  exact op_neD hu pins s σ H _ _ v u Q I rx ry ⟨dx, dy, Rp.dp dx x (canLay_of s1) (Rp.sub hS.sub dx x hx), Rp.dp dy y (canLay_of s2) (Rp.sub hS.sub dy y hy), s1, s2, q⟩
theorem isN_of {K : PySem.W.Frag} {S : Hp} {d : PyData} {x : V} (h : Rp K S d x) : decide (x = .non) = isNone d := by
  cases d <;> simp only [Rp] at h
  · subst h; rfl
  · subst h; rfl
  · subst h; rfl
  · subst h; rfl
  · obtain ⟨a, xs, rfl, _⟩ := h; rfl
  · obtain ⟨a, xs, rfl, _⟩ := h; rfl
  · obtain ⟨a, ns, _, rfl, _⟩ := h; rfl
theorem cpr_is : OpR X (compareOp .Is) (rC X.K .is_) := by
  intro pins s σ H x y v u Q I rx ry ⟨S, dx, dy, hS, hx, hy, h⟩
  cases dy <;> simp only [cmpD] at h <;> try exact h.elim
  refine op_isN pins s σ H _ _ v u Q I rx ry ⟨rp_none hy, ?_⟩
  rw [isN_of hx]
  exact h
theorem cpr_isnot : OpR X (compareOp .IsNot) (rC X.K .isnot) := by
  intro pins s σ H x y v u Q I rx ry ⟨S, dx, dy, hS, hx, hy, h⟩
  cases dy <;> simp only [cmpD] at h <;> try exact h.elim
  refine op_notN pins s σ H _ _ v u Q I rx ry ⟨rp_none hy, ?_⟩
  rw [isN_of hx]
  exact h
theorem scal_flat {K : PySem.W.Frag} {S : Hp} {d : PyData} {x : V} (h : Rp K S d x) (f : scalar d = true) : flatV x = true := by
  cases d <;> simp only [Rp, scalar] at h f
  · subst h; rfl
  · subst h; rfl
  · subst h; rfl
  · subst h; rfl
  all_goals cases f
theorem scal_eq {K : PySem.W.Frag} {S : Hp} {d e : PyData} {x y : V} (h : Rp K S d x) (f : scalar d = true) (h' : Rp K S e y) (f' : scalar e = true) : eqV x y = PyData.eqv d e := by
  cases d <;> simp only [scalar] at f <;> try cases f
  all_goals cases e <;> simp only [scalar] at f' <;> try cases f'
  all_goals
    simp only [Rp] at h h'
    subst h h'
    simp only [PyData.eqv, eqV]
theorem all_flat {K : PySem.W.Frag} {S : Hp} : ∀ {ds : List PyData} {vs : List V}, RpA K S ds vs → ds.all scalar = true → vs.all flatV = true
  | [], vs, q, _ => by simp only [RpA] at q; subst q; rfl
  | d :: ds, vs, q, f => by
    simp only [RpA] at q
    obtain ⟨v, r, e, q1, q2⟩ := q
    subst e
    rw [List.all_cons, Bool.and_eq_true] at f ⊢
    exact ⟨scal_flat q1 f.1, all_flat q2 f.2⟩
theorem any_eq {K : PySem.W.Frag} {S : Hp} {a : PyData} {x : V} (ha : Rp K S a x) (fa : scalar a = true) : ∀ {ds : List PyData} {vs : List V}, RpA K S ds vs → ds.all scalar = true → (vs.any fun y => eqV y x) = ds.any fun y => PyData.eqv y a
  | [], vs, q, _ => by simp only [RpA] at q; subst q; rfl
  | d :: ds, vs, q, f => by
    simp only [RpA] at q
    obtain ⟨v, r, e, q1, q2⟩ := q
    subst e
    rw [List.all_cons, Bool.and_eq_true] at f
    rw [List.any_cons, List.any_cons, scal_eq q1 f.1 ha fa, any_eq ha fa q2 f.2]
theorem inD_ok {a : PyData} {xs : List PyData} {P : Bool → Prop} {E : Nat → Prop} (h : post (inD a xs) P E) : scalar a = true ∧ xs.all scalar = true ∧ P (xs.any fun y => PyData.eqv y a) := by
  unfold inD at h
  obtain ⟨hc, h⟩ := post_if h
  rw [Bool.and_eq_true] at hc
  exact ⟨hc.1, hc.2, h⟩
theorem cpr_in : OpR X (compareOp .In) (rC X.K .in_) := by
  intro pins s σ H x y v u Q I rx ry ⟨S, dx, dy, hS, hx, hy, h⟩
  cases dy <;> simp only [cmpD] at h <;> try exact h.elim
  · obtain ⟨f1, f2, q⟩ := inD_ok h
    simp only [Rp] at hy
    obtain ⟨a, vs, rfl, ha, ra⟩ := hy
    refine op_in_seq pins s σ H _ _ v u Q I rx ry ⟨a, vs, rfl, .inl (SqL.ofS (hS _ _ ha)), scal_flat hx f1, all_flat ra f2, ?_⟩
    rw [if_neg Bool.false_ne_true]
    unfold inV
    rw [any_eq hx f1 ra f2]
    exact q
  · obtain ⟨f1, f2, q⟩ := inD_ok h
    simp only [Rp] at hy
    obtain ⟨a, vs, rfl, ha, ra⟩ := hy
    refine op_in_seq pins s σ H _ _ v u Q I rx ry ⟨a, vs, rfl, .inr ((SqT.sub hS.sub ha)), scal_flat hx f1, all_flat ra f2, ?_⟩
    rw [if_neg Bool.false_ne_true]
    unfold inV
    rw [any_eq hx f1 ra f2]
    exact q
theorem cpr_notin : OpR X (compareOp .NotIn) (rC X.K .notin) := by
  intro pins s σ H x y v u Q I rx ry ⟨S, dx, dy, hS, hx, hy, h⟩
  cases dy <;> simp only [cmpD, post_bind] at h <;> try exact h.elim
  · obtain ⟨f1, f2, q⟩ := inD_ok h
    simp only [Rp] at hy
    obtain ⟨a, vs, rfl, ha, ra⟩ := hy
    refine op_notIn_seq pins s σ H _ _ v u Q I rx ry ⟨a, vs, rfl, .inl (SqL.ofS (hS _ _ ha)), scal_flat hx f1, all_flat ra f2, ?_⟩
    rw [if_pos rfl]
    unfold inV
    rw [any_eq hx f1 ra f2]
    exact q
  · obtain ⟨f1, f2, q⟩ := inD_ok h
    simp only [Rp] at hy
    obtain ⟨a, vs, rfl, ha, ra⟩ := hy
    refine op_notIn_seq pins s σ H _ _ v u Q I rx ry ⟨a, vs, rfl, .inr ((SqT.sub hS.sub ha)), scal_flat hx f1, all_flat ra f2, ?_⟩
    rw [if_pos rfl]
    unfold inV
    rw [any_eq hx f1 ra f2]
    exact q
end

section
variable {X : Cx}
theorem opr (o : Bop) : OpR X (binaryOp o.op) (rB X.K o) := by
  cases o
  · exact opr_add
  · exact opr_sub
  · exact opr_mul
  · exact opr_fdiv
  · exact opr_mod
  · exact opr_pow
  · exact opr_shl
  · exact opr_shr
  · exact opr_band
  · exact opr_bxor
theorem cpr (hu : X.A.units + 64 < cLine) (o : Cop) : OpR X (compareOp o.op) (rC X.K o) := by
  cases o
  · exact cpr_lt
  · exact cpr_le
  · exact cpr_gt
  · exact cpr_ge
  · exact cpr_eq hu
  · exact cpr_ne hu
  · exact cpr_is
  · exact cpr_isnot
  · exact cpr_in
  · exact cpr_notin

/-! ### subscripts, slices, built-ins -/
theorem atD_ok {K : PySem.W.Frag} {S : Hp} {ds : List PyData} {vs : List V} {i : Int} {P : PyData → Prop} {E : Nat → Prop} (hr : RpA K S ds vs) (h : post (atD ds i) P E) :
    ∃ d v, atI vs i = some v ∧ Rp K S d v ∧ P d := by
  unfold atD at h
  cases i with
  | ofNat k =>
    dsimp only at h
    cases e : ds[k]? with
    | none => rw [e] at h; exact h.elim
    | some d =>
      rw [e] at h
      obtain ⟨v, hv, hd⟩ := hr.get e
      exact ⟨d, v, atI_nat hv, hd, h⟩
  | negSucc k =>
    dsimp only at h
    by_cases c : k < ds.length
    · rw [if_pos c] at h
      cases e : ds[ds.length - (k + 1)]? with
      | none => rw [e] at h; exact h.elim
      | some d =>
        rw [e] at h
        obtain ⟨v, hv, hd⟩ := hr.get e
        refine ⟨d, v, ?_, hd, h⟩
        have hl := hr.length
        unfold atI ixN
        rw [if_neg (by omega), if_pos (by omega)]
        have e2 : (Int.negSucc k + (vs.length : Int)).toNat = ds.length - (k + 1) := by omega
        rw [e2]
        exact hv
    · rw [if_neg c] at h; exact h.elim
def rX (K : PySem.W.Frag) : R2 := fun x y H Q => ∃ S dx dy, In S H ∧ Rp K S dx x ∧ Rp K S dy y ∧ post (subD dx dy) (fun d => ∀ v H' S', Grow H S H' S' → Rp K S' d v → Q v H') (fun _ => False)
theorem ixr : IxR X (rX X.K) := by
  intro va sl pins s σ H x y v u Q I rx ry ⟨S, dx, dy, hS, hx, hy, h⟩ hp
  unfold subD at h
  split at h
  · rename_i xs k
    simp only [Rp] at hx
    obtain ⟨a, vs, rfl, ha, ra⟩ := hx
    cases rp_int hy
    obtain ⟨d, w, e1, e2, q⟩ := atD_ok ra h
    exact ix_tup va sl pins s σ H _ _ v u Q I rx ry ⟨a, vs, k, w, rfl, rfl, SqT.sub hS.sub ha, e1, q _ H S (Grow.refl hS) e2⟩ hp
  · rename_i xs k
    simp only [Rp] at hx
    obtain ⟨a, vs, rfl, ha, ra⟩ := hx
    cases rp_int hy
    obtain ⟨d, w, e1, e2, q⟩ := atD_ok ra h
    exact ix_list va sl pins s σ H _ _ v u Q I rx ry ⟨a, vs, k, w, rfl, rfl, SqL.ofS (hS _ _ ha), e1, q _ H S (Grow.refl hS) e2⟩ hp
  · rename_i xs k
    simp only [Rp] at hx
    obtain ⟨a, ns, e0, rfl, ha⟩ := hx
    simp only [List.cons.injEq, Prod.mk.injEq, PyData.list.injEq, and_true, true_and] at e0
    subst e0
    cases rp_int hy
    obtain ⟨d, w, e1, e2, q⟩ := atD_ok (RpA.ofInts (K := X.K) (S := S) ns) h
    exact ix_list va sl pins s σ H _ _ v u Q I rx ry ⟨a, _, k, w, rfl, rfl, SqL.sub hS.sub ha, e1, q _ H S (Grow.refl hS) e2⟩ hp
  · exact h.elim
def rS (K : PySem.W.Frag) : V → Option Int → Option Int → Hp → VK → Prop := fun x lo hi H Q => ∃ S dx, In S H ∧ Rp K S dx x ∧ post (sliceD dx lo hi) (fun d => ∀ v H' S', Grow H S H' S' → Rp K S' d v → Q v H') (fun _ => False)
theorem cut_rp {K : PySem.W.Frag} {S : Hp} {ds : List PyData} {vs : List V} (lo hi : Option Int) (h : RpA K S ds vs) : RpA K S (cutD ds lo hi) (cutV vs lo hi) := by
  unfold cutD cutV
  rw [h.length]
  exact RpA.take _ (RpA.drop _ h)
theorem slr : SlR X (rS X.K) := by
  intro pins s σ H x v vl vu lo hi sl Q I rx hs pl pu ⟨S, dx, hS, hx, h⟩
  cases dx <;> simp only [sliceD] at h <;> try exact h.elim
  · rename_i xs
    simp only [Rp] at hx
    obtain ⟨a, vs, rfl, ha, ra⟩ := hx
    exact sl_list pins s σ H _ v vl vu lo hi sl Q I rx hs pl pu ⟨a, vs, rfl, SqL.ofS (hS _ _ ha), fun p hp =>
      h _ _ _ (Grow.laid hS hp _) (Rp.lst upd_same ((cut_rp lo hi ra).sub (sub_upd (hS.no hp))))⟩
  · rename_i xs
    simp only [Rp] at hx
    obtain ⟨a, vs, rfl, ha, ra⟩ := hx
    refine sl_tupA pins s σ H _ v vl vu lo hi sl Q I rx hs pl pu ⟨a, vs, rfl, SqT.sub hS.sub ha, fun e => ?_, fun e p hp =>
      h _ _ _ (Grow.laid hS hp _) (Rp.tup upd_same ((cut_rp lo hi ra).sub (sub_upd (hS.no hp))))⟩
    refine h _ H S (Grow.refl hS) ?_
    have e2 : cutD xs lo hi = xs := by
      unfold cutD
      rw [← ra.length, e.1, e.2, ra.length]
      simp
    rw [e2]
    simp only [Rp]
    exact ⟨a, vs, rfl, ha, ra⟩

def Blt.fn : Blt → Value
  | .len => .builtin "len"
  | .abs => .builtin "abs"
  | .int => .type "int"
  | .str => .type "str"
  | .tuple => .type "tuple"
  | .list => .type "list"
  | .min2 => .builtin "min"
  | .max2 => .builtin "max"
  | .sum => .builtin "sum"
  | .min1 => .builtin "min"
  | .max1 => .builtin "max"
  | .sorted => .builtin "sorted"
def Blt.nm : Blt → Str
  | .len => "len"
  | .abs => "abs"
  | .int => "int"
  | .str => "str"
  | .tuple => "tuple"
  | .list => "list"
  | .min2 => "min"
  | .max2 => "max"
  | .sum => "sum"
  | .min1 => "min"
  | .max1 => "max"
  | .sorted => "sorted"
theorem Blt.boot (b : Blt) : bootBuiltins b.nm = some b.fn := by cases b <;> decide +kernel
def rBl (K : PySem.W.Frag) (b : Blt) : List V → Hp → VK → Prop := fun xs H Q => ∃ S ds, In S H ∧ RpA K S ds xs ∧ post (bltD b ds) (fun d => ∀ v H' S', Grow H S H' S' → Rp K S' d v → Q v H') (fun _ => False)
theorem one_of {K : PySem.W.Frag} {S : Hp} {d : PyData} {xs : List V} (h : RpA K S [d] xs) : ∃ v, xs = [v] ∧ Rp K S d v := by
  simp only [RpA] at h
  obtain ⟨v, r, e, q, e2⟩ := h
  subst e2
  exact ⟨v, e, q⟩
theorem two_of {K : PySem.W.Frag} {S : Hp} {d e : PyData} {xs : List V} (h : RpA K S [d, e] xs) : ∃ v u, xs = [v, u] ∧ Rp K S d v ∧ Rp K S e u := by
  simp only [RpA] at h
  obtain ⟨v, r, e1, q, v', r', e2, q', e3⟩ := h
  subst e3 e2
  exact ⟨v, v', e1, q, q'⟩
section
variable {K : PySem.W.Frag} {S : Hp} {ds : List PyData} {vs : List V} {Pp : PyData → Prop}
theorem sumD_ok (ra : RpA K S ds vs) (h : post (sumD ds) Pp fun _ => False) : ∃ ks : List Int, vs = ks.map V.int ∧ Pp (.int ks.sum) := by
  unfold sumD at h
  split at h
  · rename_i e
    exact ⟨_, RpA.ints ra e, h⟩
  · exact h.elim
theorem lowD_ok (ra : RpA K S ds vs) (h : post (lowD ds) Pp fun _ => False) : ∃ (k : Int) (ks : List Int), vs = (k :: ks).map V.int ∧ Pp (.int (lowI k ks)) := by
  unfold lowD at h
  split at h
  · rename_i e
    exact ⟨_, _, RpA.ints ra e, h⟩
  · exact h.elim
theorem highD_ok (ra : RpA K S ds vs) (h : post (highD ds) Pp fun _ => False) : ∃ (k : Int) (ks : List Int), vs = (k :: ks).map V.int ∧ Pp (.int (highI k ks)) := by
  unfold highD at h
  split at h
  · rename_i e
    exact ⟨_, _, RpA.ints ra e, h⟩
  · exact h.elim
end
theorem insZ_perm (i : Int) : ∀ ks : List Int, (insZ i ks).Perm (i :: ks)
  | [] => .refl _
  | j :: r => by
    unfold insZ
    split
    · exact .refl _
    · exact ((insZ_perm i r).cons j).trans (.swap i j r)
theorem sortZ_perm : ∀ ks : List Int, (sortZ ks).Perm ks
  | [] => .refl _
  | i :: r => (insZ_perm i _).trans ((sortZ_perm r).cons i)
theorem insZ_rises (i : Int) : ∀ ks : List Int, ks.Pairwise (· ≤ ·) → (insZ i ks).Pairwise (· ≤ ·)
  | [], _ => by simp [insZ]
  | j :: r, h => by
    rw [List.pairwise_cons] at h
    unfold insZ
    split
    · rename_i q
      refine List.pairwise_cons.mpr ⟨fun y hy => ?_, List.pairwise_cons.mpr h⟩
      rcases List.mem_cons.mp hy with e | e
      · rw [e]; exact q
      · exact Int.le_trans q (h.1 y e)
    · rename_i q
      refine List.pairwise_cons.mpr ⟨fun y hy => ?_, insZ_rises i r h.2⟩
      rcases List.mem_cons.mp ((insZ_perm i r).mem_iff.mp hy) with e | e
      · rw [e]; omega
      · exact h.1 y e
theorem sortZ_rises : ∀ ks : List Int, (sortZ ks).Pairwise (· ≤ ·)
  | [] => .nil
  | i :: r => insZ_rises i _ (sortZ_rises r)
theorem sort_is {ns ks : List Int} (h1 : ns.Perm ks) (h2 : ns.Pairwise (· ≤ ·)) : ns = sortZ ks :=
  List.Perm.eq_of_pairwise (fun _ _ _ _ a b => Int.le_antisymm a b) h2 (sortZ_rises ks) (h1.trans (sortZ_perm ks).symm)
theorem sortD_ok {K : PySem.W.Frag} {S : Hp} {ds : List PyData} {vs : List V} {Pp : PyData → Prop} (ra : RpA K S ds vs) (h : post (sortD ds) Pp fun _ => False) : ∃ ks : List Int, vs = ks.map V.int ∧ Pp (.list ((sortZ ks).map PyData.int)) := by
  unfold sortD at h
  split at h
  · rename_i e
    exact ⟨_, RpA.ints ra e, h⟩
  · exact h.elim
theorem lowI_mem : ∀ (ks : List Int) (k : Int), lowI k ks ∈ k :: ks ∧ ∀ y ∈ k :: ks, lowI k ks ≤ y
  | [], k => ⟨by simp [lowI], fun y hy => by simp at hy; subst hy; exact Int.le_refl _⟩
  | m :: ks, k => by
    obtain ⟨h1, h2⟩ := lowI_mem ks (if m < k then m else k)
    unfold lowI
    refine ⟨?_, fun y hy => ?_⟩
    · rcases List.mem_cons.mp h1 with e | e
      · rw [e]; split <;> simp
      · simp [e]
    · have h3 := h2 _ List.mem_cons_self
      rcases List.mem_cons.mp hy with e | e
      · subst e; exact Int.le_trans h3 (by split <;> omega)
      · rcases List.mem_cons.mp e with e | e
        · subst e; exact Int.le_trans h3 (by split <;> omega)
        · exact h2 _ (List.mem_cons_of_mem _ e)
theorem highI_mem : ∀ (ks : List Int) (k : Int), highI k ks ∈ k :: ks ∧ ∀ y ∈ k :: ks, y ≤ highI k ks
  | [], k => ⟨by simp [highI], fun y hy => by simp at hy; subst hy; exact Int.le_refl _⟩
  | m :: ks, k => by
    obtain ⟨h1, h2⟩ := highI_mem ks (if k < m then m else k)
    unfold highI
    refine ⟨?_, fun y hy => ?_⟩
    · rcases List.mem_cons.mp h1 with e | e
      · rw [e]; split <;> simp
      · simp [e]
    · have h3 := h2 _ List.mem_cons_self
      rcases List.mem_cons.mp hy with e | e
      · subst e; exact Int.le_trans (by split <;> omega) h3
      · rcases List.mem_cons.mp e with e | e
        · subst e; exact Int.le_trans (by split <;> omega) h3
        · exact h2 _ (List.mem_cons_of_mem _ e)
theorem low_is {k : Int} {ks : List Int} {m : Int} (h1 : m ∈ k :: ks) (h2 : ∀ y ∈ k :: ks, m ≤ y) : lowI k ks = m := by
  obtain ⟨g1, g2⟩ := lowI_mem ks k
  have a1 := h2 _ g1
  have a2 := g2 _ h1
  omega
theorem high_is {k : Int} {ks : List Int} {m : Int} (h1 : m ∈ k :: ks) (h2 : ∀ y ∈ k :: ks, y ≤ m) : highI k ks = m := by
  obtain ⟨g1, g2⟩ := highI_mem ks k
  have a1 := h2 _ g1
  have a2 := g2 _ h1
  omega
theorem blr (hc : X.calm = true) (b : Blt) : CallR X b.fn (rBl X.K b) := by
  intro pins s σ H xs us Q I r ⟨S, ds, hS, hx, h⟩
  unfold bltD at h
  split at h
  · obtain ⟨v, rfl, q⟩ := one_of hx
    simp only [Rp] at q
    obtain ⟨a, vs, rfl, ha, ra⟩ := q
    exact call_len pins s σ H _ us Q I r ⟨_, _, rfl, .inr ⟨vs, SqT.sub hS.sub ha, rfl⟩, by rw [ra.length]; exact h _ H S (Grow.refl hS) (rpI _)⟩
  · obtain ⟨v, rfl, q⟩ := one_of hx
    simp only [Rp] at q
    obtain ⟨a, vs, rfl, ha, ra⟩ := q
    exact call_len pins s σ H _ us Q I r ⟨_, _, rfl, .inl ⟨vs, SqL.ofS (hS _ _ ha), rfl⟩, by rw [ra.length]; exact h _ H S (Grow.refl hS) (rpI _)⟩
  · obtain ⟨v, rfl, q⟩ := one_of hx
    simp only [Rp] at q
    obtain ⟨a, ns, e0, rfl, ha⟩ := q
    simp only [List.cons.injEq, Prod.mk.injEq, PyData.list.injEq, and_true, true_and] at e0
    subst e0
    refine call_len pins s σ H _ us Q I r ⟨_, _, rfl, .inl ⟨_, SqL.sub hS.sub ha, rfl⟩, ?_⟩
    rw [List.length_map]
    have h2 := h (.int ns.length) H S (Grow.refl hS) (by rw [List.length_map]; exact rpI _)
    exact h2
  · obtain ⟨v, rfl, q⟩ := one_of hx
    cases rp_str q
    obtain ⟨hz, h⟩ := post_if h
    exact call_len pins s σ H _ us Q I r ⟨_, _, rfl, ⟨Nat.le_trans hz bigLine, rfl⟩, h _ H S (Grow.refl hS) (rpI _)⟩
  · obtain ⟨v, rfl, q⟩ := one_of hx
    cases rp_int q
    exact call_abs pins s σ H _ us Q I r ⟨_, rfl, h _ H S (Grow.refl hS) (rpI _)⟩
  · obtain ⟨v, rfl, q⟩ := one_of hx
    cases rp_int q
    exact call_int1 pins s σ H _ us Q I r (.inl ⟨_, rfl, h _ H S (Grow.refl hS) (rpI _)⟩)
  · obtain ⟨v, rfl, q⟩ := one_of hx
    cases rp_bool q
    exact call_int1 pins s σ H _ us Q I r (.inr ⟨_, rfl, h _ H S (Grow.refl hS) (rpI _)⟩)
  · obtain ⟨v, rfl, q⟩ := one_of hx
    cases rp_int q
    obtain ⟨hz, h⟩ := post_if h
    exact call_str_int pins s σ H _ us Q I r ⟨_, rfl, hz, h _ H S (Grow.refl hS) (rpS _)⟩
  · obtain ⟨v, rfl, q⟩ := one_of hx
    simp only [Rp] at q
    obtain ⟨a, vs, rfl, ha, ra⟩ := q
    exact call_tuple_of pins s σ H _ us Q I r ⟨a, vs, rfl, .inl ⟨SqL.ofS (hS _ _ ha), fun p hp =>
      h _ _ _ (Grow.laid hS hp _) (Rp.tup upd_same (ra.sub (sub_upd (hS.no hp))))⟩⟩
  · obtain ⟨v, rfl, q⟩ := one_of hx
    simp only [Rp] at q
    obtain ⟨a, vs, rfl, ha, ra⟩ := q
    exact call_tuple_of pins s σ H _ us Q I r ⟨a, vs, rfl, .inr ⟨SqT.sub hS.sub ha, h _ H S (Grow.refl hS) (by simp only [Rp]; exact ⟨a, vs, rfl, ha, ra⟩)⟩⟩
  · obtain ⟨v, rfl, q⟩ := one_of hx
    simp only [Rp] at q
    obtain ⟨a, vs, rfl, ha, ra⟩ := q
    exact call_list_of pins s σ H _ us Q I r ⟨a, vs, rfl, .inl (SqL.ofS (hS _ _ ha)), fun p hp =>
      h _ _ _ (Grow.laid hS hp _) (Rp.lst upd_same (ra.sub (sub_upd (hS.no hp))))⟩
  · obtain ⟨v, rfl, q⟩ := one_of hx
    simp only [Rp] at q
    obtain ⟨a, vs, rfl, ha, ra⟩ := q
    exact call_list_of pins s σ H _ us Q I r ⟨a, vs, rfl, .inr (SqT.sub hS.sub ha), fun p hp =>
      h _ _ _ (Grow.laid hS hp _) (Rp.lst upd_same (ra.sub (sub_upd (hS.no hp))))⟩
  · obtain ⟨v, u, rfl, q1, q2⟩ := two_of hx
    cases rp_int q1; cases rp_int q2
    exact call_min2 hc pins s σ H _ us Q I r ⟨_, _, rfl, h _ H S (Grow.refl hS) (rpI _)⟩
  · obtain ⟨v, u, rfl, q1, q2⟩ := two_of hx
    cases rp_int q1; cases rp_int q2
    exact call_max2 hc pins s σ H _ us Q I r ⟨_, _, rfl, h _ H S (Grow.refl hS) (rpI _)⟩
  · obtain ⟨v, rfl, q⟩ := one_of hx
    simp only [Rp] at q
    obtain ⟨a, vs, rfl, ha, ra⟩ := q
    obtain ⟨ks, e1, e2⟩ := sumD_ok ra h
    subst e1
    exact cr_sum hc pins s σ H _ us Q I r ⟨a, ks, rfl, SqL.ofS (hS _ _ ha), e2 _ H S (Grow.refl hS) (rpI _)⟩
  · obtain ⟨v, rfl, q⟩ := one_of hx
    simp only [Rp] at q
    obtain ⟨a, vs, rfl, ha, ra⟩ := q
    obtain ⟨ks, e1, e2⟩ := sumD_ok ra h
    subst e1
    exact cr_sumT hc pins s σ H _ us Q I r ⟨a, ks, rfl, SqT.sub hS.sub ha, e2 _ H S (Grow.refl hS) (rpI _)⟩
  · obtain ⟨v, rfl, q⟩ := one_of hx
    simp only [Rp] at q
    obtain ⟨a, vs, rfl, ha, ra⟩ := q
    obtain ⟨k, ks, e1, e2⟩ := lowD_ok ra h
    subst e1
    exact cr_min hc pins s σ H _ us Q I r ⟨a, k :: ks, rfl, SqL.ofS (hS _ _ ha), by simp, fun m h1 h2 => by rw [← low_is h1 h2]; exact e2 _ H S (Grow.refl hS) (rpI _)⟩
  · obtain ⟨v, rfl, q⟩ := one_of hx
    simp only [Rp] at q
    obtain ⟨a, vs, rfl, ha, ra⟩ := q
    obtain ⟨k, ks, e1, e2⟩ := lowD_ok ra h
    subst e1
    exact cr_minT hc pins s σ H _ us Q I r ⟨a, k :: ks, rfl, SqT.sub hS.sub ha, by simp, fun m h1 h2 => by rw [← low_is h1 h2]; exact e2 _ H S (Grow.refl hS) (rpI _)⟩
  · obtain ⟨v, rfl, q⟩ := one_of hx
    simp only [Rp] at q
    obtain ⟨a, vs, rfl, ha, ra⟩ := q
    obtain ⟨k, ks, e1, e2⟩ := highD_ok ra h
    subst e1
    exact cr_max hc pins s σ H _ us Q I r ⟨a, k :: ks, rfl, SqL.ofS (hS _ _ ha), by simp, fun m h1 h2 => by rw [← high_is h1 h2]; exact e2 _ H S (Grow.refl hS) (rpI _)⟩
  · obtain ⟨v, rfl, q⟩ := one_of hx
    simp only [Rp] at q
    obtain ⟨a, vs, rfl, ha, ra⟩ := q
    obtain ⟨k, ks, e1, e2⟩ := highD_ok ra h
    subst e1
    exact cr_maxT hc pins s σ H _ us Q I r ⟨a, k :: ks, rfl, SqT.sub hS.sub ha, by simp, fun m h1 h2 => by rw [← high_is h1 h2]; exact e2 _ H S (Grow.refl hS) (rpI _)⟩
  · obtain ⟨v, rfl, q⟩ := one_of hx
    simp only [Rp] at q
    obtain ⟨a, vs, rfl, ha, ra⟩ := q
    unfold sortDL at h
    split at h
    · rename_i ns e
      have e1 := RpA.ints ra e
      subst e1
      exact cr_sortedI pins s σ H _ us Q I r ⟨a, ns, rfl, SqL.ofS (hS _ _ ha), fun ns' p h1 h2 hp => by rw [sort_is h1 h2]; exact h _ _ _ (Grow.laid hS hp _) (Rp.lst upd_same (RpA.ofInts _))⟩
    · split at h
      · split at h
        · rename_i t _ _ _ nss et
          obtain ⟨hz, h⟩ := post_if h
          simp only [Bool.and_eq_true, decide_eq_true_eq] at hz
          obtain ⟨m1, m2⟩ := tups_map et
          rw [m1] at ra
          refine cr_sortT (d := t.length) (B := 1048576) hz.1 pins s σ H _ us Q I r ⟨a, vs, rfl, SqL.ofS (hS _ _ ha), ?_, fun x hx => ?_, fun ys p h1 h2 hp => ?_⟩
          · rw [ra.length, ← m1]; exact hz.2
          · obtain ⟨ns, hn, ht⟩ := tups_mem hS.sub ra x hx
            exact ⟨ns, ht, m2 ns hn⟩
          · obtain ⟨cs, p1, p2⟩ := RpA.perm h1 ra
            have e3 := sortL_is p1 m2 (tups_rise hS.sub p2 (fun ns hn => m2 ns (p1.mem_iff.mp hn)) h2)
            rw [e3] at p2
            exact h _ _ _ (Grow.laid hS hp _) (Rp.lst upd_same (RpA.sub (sub_upd (hS.no hp)) _ _ p2))
        · exact h.elim
      · exact h.elim
  · obtain ⟨v, rfl, q⟩ := one_of hx
    simp only [Rp] at q
    obtain ⟨a, vs, rfl, ha, ra⟩ := q
    obtain ⟨ks, e1, e2⟩ := sortD_ok ra h
    subst e1
    exact cr_sortedIT pins s σ H _ us Q I r ⟨a, ks, rfl, SqT.sub hS.sub ha, fun ns' p h1 h2 hp => by rw [sort_is h1 h2]; exact e2 _ _ _ (Grow.laid hS hp _) (Rp.lst upd_same (RpA.ofInts _))⟩
  · exact h.elim
end
end DL
namespace DL
open PySem PySem.Spec PyProof.Rows L2
variable [Tabs]

/-! ### these never raise -/
def Quiet {α : Type} (r : R α) : Prop := ∀ c, r ≠ .ex c
theorem quiet_post {α : Type} {r : R α} (q : Quiet r) {P : α → Prop} {E E' : Nat → Prop} (h : post r P E) : post r P E' := by
  cases r with
  | ok a => exact h
  | ex c => exact absurd rfl (q c)
  | bad => exact h
theorem quiet_ok {α : Type} {a : α} : Quiet (R.ok a) := fun _ h => by cases h
theorem quiet_bad {α : Type} : Quiet (R.bad : R α) := fun _ h => by cases h
theorem quiet_if {α : Type} {c : Prop} [Decidable c] {a b : R α} (ha : Quiet a) (hb : Quiet b) : Quiet (if c then a else b) := by
  by_cases q : c
  · rw [if_pos q]; exact ha
  · rw [if_neg q]; exact hb
theorem quiet_bind {α β : Type} {r : R α} {f : α → R β} (h : Quiet r) (g : ∀ a, Quiet (f a)) : Quiet (r.bind f) := by
  cases r with
  | ok a => exact g a
  | ex c => exact absurd rfl (h c)
  | bad => exact quiet_bad
theorem quiet_truth (d : PyData) : Quiet (truth d) := by
  unfold truth
  split <;> first | exact quiet_ok | exact quiet_bad | exact quiet_if quiet_ok quiet_bad
theorem quiet_binD (o : Bop) (a b : PyData) : Quiet (binD o a b) := by
  unfold binD
  split <;> first | exact quiet_ok | exact quiet_bad | exact quiet_if quiet_ok quiet_bad
theorem quiet_eqD (a b : PyData) : Quiet (eqD a b) := by
  unfold eqD
  split <;> first | exact quiet_ok | exact quiet_bad | exact quiet_if quiet_ok quiet_bad
theorem quiet_inD (a : PyData) (b : List PyData) : Quiet (inD a b) := quiet_if quiet_ok quiet_bad
theorem quiet_cmpD (o : Cop) (a b : PyData) : Quiet (cmpD o a b) := by
  unfold cmpD
  split <;> first | exact quiet_ok | exact quiet_bad | exact quiet_eqD _ _ | exact quiet_inD _ _ | exact quiet_bind (quiet_eqD _ _) fun _ => quiet_ok | exact quiet_bind (quiet_inD _ _) fun _ => quiet_ok
theorem quiet_atD (xs : List PyData) (i : Int) : Quiet (atD xs i) := by
  unfold atD
  split
  · split <;> first | exact quiet_ok | exact quiet_bad
  · split
    · split <;> first | exact quiet_ok | exact quiet_bad
    · exact quiet_bad
theorem quiet_subD (a b : PyData) : Quiet (subD a b) := by
  unfold subD
  split <;> first | exact quiet_atD _ _ | exact quiet_bad
theorem quiet_partD (a : PyData) : Quiet (partD a) := by
  unfold partD
  split <;> first | exact quiet_ok | exact quiet_bad
theorem quiet_sliceD (a : PyData) (lo hi : Option Int) : Quiet (sliceD a lo hi) := by
  unfold sliceD
  split <;> first | exact quiet_ok | exact quiet_bad
theorem quiet_sumD (xs : List PyData) : Quiet (sumD xs) := by
  unfold sumD
  split <;> first | exact quiet_ok | exact quiet_bad
theorem quiet_lowD (xs : List PyData) : Quiet (lowD xs) := by
  unfold lowD
  split <;> first | exact quiet_ok | exact quiet_bad
theorem quiet_highD (xs : List PyData) : Quiet (highD xs) := by
  unfold highD
  split <;> first | exact quiet_ok | exact quiet_bad
theorem quiet_sortD (xs : List PyData) : Quiet (sortD xs) := by
  unfold sortD
  split <;> first | exact quiet_ok | exact quiet_bad
theorem quiet_sortDL (xs : List PyData) : Quiet (sortDL xs) := by
  unfold sortDL
  repeat' split
  all_goals first | exact quiet_ok | exact quiet_bad
theorem quiet_bltD (b : Blt) (ds : List PyData) : Quiet (bltD b ds) := by
  unfold bltD
  split <;> first | exact quiet_ok | exact quiet_bad | exact quiet_if quiet_ok quiet_bad | exact quiet_sumD _ | exact quiet_lowD _ | exact quiet_highD _ | exact quiet_sortD _ | exact quiet_sortDL _ | (split <;> first | exact quiet_ok | exact quiet_bad)
theorem quiet_isiD (a : PyData) (T : String) : Quiet (isiD a T) := by
  unfold isiD
  split <;> first | exact quiet_bad | (split <;> first | exact quiet_ok | exact quiet_bad)
theorem quiet_seqOf (a : PyData) : Quiet (seqOf a) := by
  unfold seqOf
  split <;> first | exact quiet_ok | exact quiet_bad

/-- the written part, the classes of errors, the wish -/
abbrev wh (X : Cx) (cl : Nat → Value) (W : WX) : Wh := ⟨X.K, cl, W⟩
/-- an expression is read so, as a value and as a test -/
structure Snd (X : Cx) (cl : Nat → Value) (W : WX) (e : Expr) (f : Env → R PyData) : Prop where
  pe : PE X e (tD (wh X cl W) f)
  pt : PT X e (tDT (wh X cl W) fun ρ => (f ρ).bind truth)

theorem truV_of {K : PySem.W.Frag} {S H : Hp} {d : PyData} {v : V} {P : Bool → Prop} {E : Nat → Prop} (hS : In S H) (hr : Rp K S d v) (h : post (truth d) P E) : ∃ k, TruV K v H k ∧ P k := by
  cases d <;> simp only [truth] at h
  · cases rp_none hr; exact ⟨false, rfl, h⟩
  · cases rp_bool hr; exact ⟨_, rfl, h⟩
  · cases rp_int hr; exact ⟨_, rfl, h⟩
  · cases rp_str hr
    obtain ⟨hz, h⟩ := post_if h
    exact ⟨_, ⟨Nat.le_trans hz bigLine, rfl⟩, h⟩
  · simp only [Rp] at hr
    obtain ⟨a, vs, rfl, ha, ra⟩ := hr
    rename_i xs
    refine ⟨!vs.isEmpty, .inl ⟨vs, SqL.ofS (hS _ _ ha), rfl⟩, ?_⟩
    have e : vs.isEmpty = xs.isEmpty := by
      have := ra.length
      cases xs <;> cases vs <;> simp_all
    rw [e]; exact h
  · simp only [Rp] at hr
    obtain ⟨a, vs, rfl, ha, ra⟩ := hr
    rename_i xs
    refine ⟨!vs.isEmpty, .inr (.inl ⟨vs, SqT.sub hS.sub ha, rfl⟩), ?_⟩
    have e : vs.isEmpty = xs.isEmpty := by
      have := ra.length
      cases xs <;> cases vs <;> simp_all
    rw [e]; exact h
  · exact h.elim

def plainT : Expr → Bool
  | .UnaryOp .Not _ _ => false
  | .BoolOp _ _ _ => false
  | .IfExp _ _ _ _ => false
  | .Compare _ _ _ _ => false
  | _ => true
theorem plain_isTrue {e : Expr} {env : PySem.Env} (h : plainT e = true) : ∀ whole, isTrue e env whole = (do let v ← whole; standAt e.pos; holding [v] (truthy v)) := by
  intro whole
  cases e <;> first | rfl | (simp [plainT] at h; done) | (rename_i op _ _; cases op <;> first | rfl | (simp [plainT] at h; done))
def notStar : Expr → Bool
  | .Starred _ _ => false
  | _ => true
theorem star_cons {e : Expr} {es : List Expr} {env : PySem.Env} (h : notStar e = true) : starEach (e :: es) env = (false, eval e env) :: starEach es env := by
  cases e <;> first | rfl | (simp [notStar] at h; done)
theorem back_any {pos : Pos} {env : PySem.Env} : ∀ {es : List Expr}, es.all notStar = true → (backTo pos (starEach es env)).any (·.1) = false
  | [], _ => rfl
  | e :: es, h => by
    rw [List.all_cons, Bool.and_eq_true] at h
    rw [star_cons h.1]
    have := back_any (pos := pos) (env := env) h.2
    unfold backTo at this ⊢
    rw [List.map_cons, List.any_cons, this]
    rfl
def plainIx : Expr → Bool
  | .Slice _ _ _ _ => false
  | _ => true
theorem plain_ix {e : Expr} (h : plainIx e = true) : PlainIx e := by
  intro o i
  cases e <;> first | rfl | (simp [plainIx] at h; done)

section
variable {X : Cx} {cl : Nat → Value} {W : WX} {e a b c : Expr} {f fa fb fc : Env → R PyData} {pos : Pos} {call : Nat → List PyData → R PyData}
theorem pt_plain (h : PE X e (tD (wh X cl W) f)) (he : plainT e = true) : PT X e (tDT (wh X cl W) fun ρ => (f ρ).bind truth) :=
  pt_imp (pt_truth h (plain_isTrue he)) fun σ H Q ⟨S, ρ, hS, hr, h⟩ => td_one hS hr (post_bind.mp h) fun d v H' S' p g q => by
    obtain ⟨k, e1, e2⟩ := truV_of g.in_ q p
    exact ⟨k, e1, e2 H' S' g⟩
theorem Snd.of (h : PE X e (tD (wh X cl W) f)) (he : plainT e = true) : Snd X cl W e f := ⟨h, pt_plain h he⟩
theorem Snd.imp {f' : Env → R PyData} (h : Snd X cl W e f) (hf : f' = f) : Snd X cl W e f' := by subst hf; exact h

theorem snd_var {i : Nat} {x : Str} (hN : X.N[i]? = some x) (hv : Vis X.env.scope x) (hd : (x == ("__debug__" : Str)) = false) (hcd : (x == ("__classdict__" : Str)) = false) : Snd X cl W (.Name x pos) (ev call (.var i)) := by
  refine Snd.of (pe_imp (pe_var hN hv hd hcd) fun σ H Q ⟨S, ρ, hS, hr, h⟩ => ?_) rfl
  simp only [ev] at h
  cases e1 : ρ[i]? with
  | none => rw [e1] at h; exact h.elim
  | some s =>
    rw [e1] at h
    dsimp only at h
    cases e2 : s.val with
    | none => rw [e2] at h; exact h.elim
    | some d =>
      rw [e2] at h
      obtain ⟨v, q1, q2⟩ := hr i s d e1 e2
      exact ⟨v, q1, h v H S (Grow.refl hS) q2⟩
theorem snd_int {i : Int} {j : Nat} : Snd X cl W (.Constant (.int i) j pos) (ev call (.int i)) :=
  Snd.of (pe_imp pe_int fun σ H Q ⟨S, ρ, hS, hr, h⟩ => h _ H S (Grow.refl hS) (rpI _)) rfl
theorem snd_bl {i : Bool} {j : Nat} : Snd X cl W (.Constant (.bool i) j pos) (ev call (.bl i)) :=
  Snd.of (pe_imp pe_bl fun σ H Q ⟨S, ρ, hS, hr, h⟩ => h _ H S (Grow.refl hS) (rpB _)) rfl
theorem snd_non {j : Nat} : Snd X cl W (.Constant .none j pos) (ev call .non) :=
  Snd.of (pe_imp pe_non fun σ H Q ⟨S, ρ, hS, hr, h⟩ => h _ H S (Grow.refl hS) rpN) rfl
theorem snd_str {x : Str} {j : Nat} : Snd X cl W (.Constant (.str x) j pos) (ev call (.str x)) :=
  Snd.of (pe_imp pe_str fun σ H Q ⟨S, ρ, hS, hr, h⟩ => h _ H S (Grow.refl hS) (rpS _)) rfl
theorem snd_glob {j : Nat} {d : PyData} {x : Str} {v : V} {u : Value} (hg : Gl X x) (hm : X.mg x = some u) (r : RelV v u) (hr : ∀ S, Rp X.K S d v) (hd : (x == ("__debug__" : Str)) = false) : Snd X cl W (.Name x pos) (ev call (.glob j d)) :=
  Snd.of (pe_imp (pe_glob hg hm r hd) fun σ H Q ⟨S, ρ, hS, _, h⟩ => h _ H S (Grow.refl hS) (hr S)) rfl

theorem snd_bin {o : Bop} (ha : Snd X cl W a fa) (hb : Snd X cl W b fb) : Snd X cl W (.BinOp a o.op b pos) fun ρ => (fa ρ).bind fun x => (fb ρ).bind fun y => binD o x y := by
  refine Snd.of (pe_imp (pe_op (opr o) ha.pe hb.pe) fun σ H Q ⟨S, ρ, hS, hr, h⟩ => ?_) rfl
  simp only [post_bind] at h
  exact td_two hS hr h fun x y vx vy H2 S2 p g qx qy => ⟨S2, x, y, g.in_, qx, qy, quiet_post (quiet_binD o x y) (post_mono p (fun d q v H' S' g' r => q v H' S' (g.trans g') r) fun _ z => z)⟩
theorem snd_neg (ha : Snd X cl W a fa) : Snd X cl W (.UnaryOp .USub a pos) fun ρ => (fa ρ).bind negD := by
  refine Snd.of (pe_imp (pe_un un_neg ha.pe) fun σ H Q ⟨S, ρ, hS, hr, h⟩ => ?_) rfl
  simp only [post_bind] at h
  refine td_one hS hr h fun d v H' S' p g q => ?_
  cases d <;> simp only [negD] at p <;> try exact p.elim
  cases rp_int q
  exact ⟨_, rfl, p _ H' S' g (rpI _)⟩
theorem rC_of {o : Cop} {x y : PyData} {vx vy : V} {H S : Hp} {Q : VK} {P : Bool → Prop} {E : Nat → Prop} {K : PySem.W.Frag} (hS : In S H) (hx : Rp K S x vx) (hy : Rp K S y vy) (h : post (cmpD o x y) P E) (hP : ∀ k, P k → Q (.bl k) H) : rC K o vx vy H Q :=
  ⟨S, x, y, hS, hx, hy, quiet_post (quiet_cmpD o x y) (post_mono h hP fun _ z => z)⟩
theorem snd_cmp {o : Cop} (hu : X.A.units + 64 < cLine) (ha : Snd X cl W a fa) (hb : Snd X cl W b fb) (hm : behindInMarks o.op b = false) :
    Snd X cl W (.Compare a [o.op] [b] pos) fun ρ => (fa ρ).bind fun x => (fb ρ).bind fun y => (cmpD o x y).bind fun k => .ok (.bool k) := by
  refine ⟨pe_imp (pe_cmpR (cpr hu o) ha.pe hb.pe hm) fun σ H Q ⟨S, ρ, hS, hr, h⟩ => ?_, pt_imp (pt_cmpR (cpr hu o) ha.pe hb.pe hm) fun σ H Q ⟨S, ρ, hS, hr, h⟩ => ?_⟩
  · simp only [post_bind] at h
    exact td_two hS hr h fun x y vx vy H2 S2 p g qx qy => rC_of g.in_ qx qy p fun k q => q _ H2 S2 g (rpB _)
  · simp only [post_bind] at h
    exact td_two hS hr h fun x y vx vy H2 S2 p g qx qy => rC_of g.in_ qx qy p fun k q => ⟨k, rfl, q H2 S2 g⟩
theorem snd_chain {o o' : Cop} (hu : X.A.units + 64 < cLine) (ha : Snd X cl W a fa) (hb : Snd X cl W b fb) (hc : Snd X cl W c fc) (hm : behindInMarks o.op b = false) (hm' : behindInMarks o'.op c = false)
    (hpe : PE X (.Compare a [o.op, o'.op] [b, c] pos) (tChain (rC X.K o) (rC X.K o') (tD (wh X cl W) fa) (tD (wh X cl W) fb) (tD (wh X cl W) fc)))
    (hpt : PT X (.Compare a [o.op, o'.op] [b, c] pos) (tTest (tChain (rC X.K o) (rC X.K o') (tD (wh X cl W) fa) (tD (wh X cl W) fb) (tD (wh X cl W) fc)))) :
    Snd X cl W (.Compare a [o.op, o'.op] [b, c] pos) fun ρ => (fa ρ).bind fun x => (fb ρ).bind fun y => (cmpD o x y).bind fun k => if k then (fc ρ).bind fun z => (cmpD o' y z).bind fun k' => .ok (.bool k') else .ok (.bool false) := by
  refine ⟨pe_imp hpe fun σ H Q ⟨S, ρ, hS, hr, h⟩ => ?_, pt_imp hpt fun σ H Q ⟨S, ρ, hS, hr, h⟩ => ?_⟩
  · simp only [post_bind] at h
    refine td_one hS hr h fun x vx H1 S1 p1 g1 q1 => ?_
    refine td_one g1.in_ (hr.sub g1.s) (post_mono p1 (fun _ z => z) fun c e => Wh.E.up e g1.h) fun y vy H2 S2 p2 g2 q2 => ?_
    refine rC_of g2.in_ (Rp.sub g2.s x vx q1) q2 p2 fun k p3 => ⟨k, rfl, ?_⟩
    cases k with
    | true =>
      simp only [if_true, post_bind] at p3 ⊢
      refine td_one g2.in_ ((hr.sub g1.s).sub g2.s) (post_mono p3 (fun _ z => z) fun c e => Wh.E.up e (g1.h.trans g2.h)) fun z vz H3 S3 p4 g3 q3 => ?_
      exact rC_of g3.in_ (Rp.sub g3.s y vy q2) q3 p4 fun k q => q _ H3 S3 ((g1.trans g2).trans g3) (rpB _)
    | false =>
      simp only [Bool.false_eq_true, if_false] at p3 ⊢
      exact p3 _ H2 S2 (g1.trans g2) (rpB _)
  · simp only [post_bind] at h
    refine td_one hS hr h fun x vx H1 S1 p1 g1 q1 => ?_
    refine td_one g1.in_ (hr.sub g1.s) (post_mono p1 (fun _ z => z) fun c e => Wh.E.up e g1.h) fun y vy H2 S2 p2 g2 q2 => ?_
    refine rC_of g2.in_ (Rp.sub g2.s x vx q1) q2 p2 fun k p3 => ⟨k, rfl, ?_⟩
    cases k with
    | true =>
      simp only [if_true, post_bind] at p3 ⊢
      refine td_one g2.in_ ((hr.sub g1.s).sub g2.s) (post_mono p3 (fun _ z => z) fun c e => Wh.E.up e (g1.h.trans g2.h)) fun z vz H3 S3 p4 g3 q3 => ?_
      exact rC_of g3.in_ (Rp.sub g3.s y vy q2) q3 p4 fun k q => ⟨k, rfl, q H3 S3 ((g1.trans g2).trans g3)⟩
    | false =>
      simp only [Bool.false_eq_true, if_false] at p3 ⊢
      exact ⟨false, rfl, p3 H2 S2 (g1.trans g2)⟩
theorem snd_not (ha : Snd X cl W a fa) : Snd X cl W (.UnaryOp .Not a pos) fun ρ => (fa ρ).bind fun x => (truth x).bind fun k => .ok (.bool (!k)) := by
  refine ⟨pe_imp (pe_notT ha.pe) fun σ H Q ⟨S, ρ, hS, hr, h⟩ => ?_, pt_imp (pt_not ha.pt) fun σ H Q ⟨S, ρ, hS, hr, h⟩ => ?_⟩
  · simp only [post_bind] at h
    refine td_one hS hr h fun d v H' S' p g q => ?_
    obtain ⟨k, e1, e2⟩ := truV_of g.in_ q p
    exact ⟨k, e1, e2 _ H' S' g (rpB _)⟩
  · simp only [post_bind] at h
    refine ⟨S, ρ, hS, hr, post_bind.mpr (post_mono h (fun d p => post_mono p (fun k q H' S' g => q H' S' g) fun _ z => z) fun _ z => z)⟩
/-- a run of and | or behind its first -/
structure SndB (X : Cx) (cl : Nat → Value) (W : WX) (op : BoolOp) (es : List Expr) (pos : Pos) (f : Env → R PyData) : Prop where
  pe : PE X (.BoolOp op es pos) (tD (wh X cl W) f)
  pw : PW X (.BoolOp op es pos) (tDT (wh X cl W) fun ρ => (f ρ).bind truth)
theorem SndB.snd {op : BoolOp} {es : List Expr} (h : SndB X cl W op es pos f) : Snd X cl W (.BoolOp op es pos) f := ⟨h.pe, h.pw.pt⟩
theorem sndB_one {op : BoolOp} (h : Snd X cl W a f) : SndB X cl W op [a] pos f := ⟨pe_one h.pe, by cases op; exact pw_and1 h.pt; exact pw_or1 h.pt⟩
theorem pw_imp {e : Expr} {t t' : TT} (h : PW X e t) (hi : ∀ σ H Q, t' σ H Q → t σ H Q) : PW X e t' := ⟨fun wh pins s σ H Q I q => h.run wh pins s σ H Q I (hi σ H Q q)⟩
theorem sndB_and {rest : List Expr} (ha : Snd X cl W a fa) (hb : SndB X cl W .And (b :: rest) pos fb) :
    SndB X cl W .And (a :: b :: rest) pos fun ρ => (fa ρ).bind fun x => (truth x).bind fun k => if k then fb ρ else .ok x := by
  refine ⟨pe_imp (pe_andT ha.pe hb.pe) fun σ H Q ⟨S, ρ, hS, hr, h⟩ => ?_, pw_imp (pw_and ha.pt hb.pw) fun σ H Q ⟨S, ρ, hS, hr, h⟩ => ?_⟩
  · simp only [post_bind] at h
    refine td_one hS hr h fun d v H' S' p g q => ?_
    obtain ⟨k, e1, e2⟩ := truV_of g.in_ q p
    refine ⟨k, e1, ?_⟩
    cases k with
    | true =>
      simp only [if_true] at e2 ⊢
      exact td_one g.in_ (hr.sub g.s) (post_mono e2 (fun _ z => z) fun c e => Wh.E.up e g.h) fun d2 v2 H2 S2 p2 g2 q2 => p2 _ _ _ (g.trans g2) q2
    | false =>
      simp only [Bool.false_eq_true, if_false] at e2 ⊢
      exact e2 _ _ _ g q
  · simp only [post_bind] at h
    refine ⟨S, ρ, hS, hr, post_bind.mpr (post_monoR h (fun d hd p => ?_) fun _ z => z)⟩
    have p' := post_monoR (P' := fun k => truth d = .ok k ∧ post (if k = true then fb ρ else R.ok d) (fun a => post (truth a) (fun b => ∀ H' S', Grow H S H' S' → Q b H') ((wh X cl W).E σ H)) ((wh X cl W).E σ H)) p (fun k hk q => ⟨hk, q⟩) fun _ z => z
    refine post_mono p' (fun k ⟨hk, q⟩ H' S' g => ?_) fun _ z => z
    cases k with
    | true =>
      simp only [if_true] at q ⊢
      exact ⟨S', ρ, g.in_, hr.sub g.s, post_bind.mpr (post_mono q (fun d2 q2 => post_mono q2 (fun b q3 H3 S3 g3 => q3 H3 S3 (g.trans g3)) fun c e => Wh.E.up e g.h) fun c e => Wh.E.up e g.h)⟩
    | false =>
      simp only [Bool.false_eq_true, if_false] at q ⊢
      have q : post (truth d) (fun b => ∀ H' S', Grow H S H' S' → Q b H') ((wh X cl W).E σ H) := q
      rw [hk] at q
      exact q H' S' g
theorem sndB_or {rest : List Expr} (ha : Snd X cl W a fa) (hb : SndB X cl W .Or (b :: rest) pos fb) :
    SndB X cl W .Or (a :: b :: rest) pos fun ρ => (fa ρ).bind fun x => (truth x).bind fun k => if k then .ok x else fb ρ := by
  refine ⟨pe_imp (pe_orT ha.pe hb.pe) fun σ H Q ⟨S, ρ, hS, hr, h⟩ => ?_, pw_imp (pw_or ha.pt hb.pw) fun σ H Q ⟨S, ρ, hS, hr, h⟩ => ?_⟩
  · simp only [post_bind] at h
    refine td_one hS hr h fun d v H' S' p g q => ?_
    obtain ⟨k, e1, e2⟩ := truV_of g.in_ q p
    refine ⟨k, e1, ?_⟩
    cases k with
    | false =>
      simp only [Bool.false_eq_true, if_false] at e2 ⊢
      exact td_one g.in_ (hr.sub g.s) (post_mono e2 (fun _ z => z) fun c e => Wh.E.up e g.h) fun d2 v2 H2 S2 p2 g2 q2 => p2 _ _ _ (g.trans g2) q2
    | true =>
      simp only [if_true] at e2 ⊢
      exact e2 _ _ _ g q
  · simp only [post_bind] at h
    refine ⟨S, ρ, hS, hr, post_bind.mpr (post_monoR h (fun d hd p => ?_) fun _ z => z)⟩
    have p' := post_monoR (P' := fun k => truth d = .ok k ∧ post (if k = true then R.ok d else fb ρ) (fun a => post (truth a) (fun b => ∀ H' S', Grow H S H' S' → Q b H') ((wh X cl W).E σ H)) ((wh X cl W).E σ H)) p (fun k hk q => ⟨hk, q⟩) fun _ z => z
    refine post_mono p' (fun k ⟨hk, q⟩ H' S' g => ?_) fun _ z => z
    cases k with
    | false =>
      simp only [Bool.false_eq_true, if_false] at q ⊢
      exact ⟨S', ρ, g.in_, hr.sub g.s, post_bind.mpr (post_mono q (fun d2 q2 => post_mono q2 (fun b q3 H3 S3 g3 => q3 H3 S3 (g.trans g3)) fun c e => Wh.E.up e g.h) fun c e => Wh.E.up e g.h)⟩
    | true =>
      simp only [if_true] at q ⊢
      have q : post (truth d) (fun b => ∀ H' S', Grow H S H' S' → Q b H') ((wh X cl W).E σ H) := q
      rw [hk] at q
      exact q H' S' g
end
end DL
namespace DL
open PySem PySem.Spec PyProof.Rows L2
variable [Tabs]
section
variable {X : Cx} {cl : Nat → Value} {W : WX} {e a b c : Expr} {es : List Expr} {f fa fb fc : Env → R PyData} {pos : Pos} {call : Nat → List PyData → R PyData}
/-! ### a if t else b -/
def tIfT (t u v : TT) : TT := fun σ H Q => t σ H fun k H1 => if k = true then u σ H1 Q else v σ H1 Q
theorem pt_ifExp {tc ta tb : TT} (hc : PT X c tc) (ha : PT X a ta) (hb : PT X b tb) : PT X (.IfExp c a b pos) (tIfT tc ta tb) := by
  refine ⟨fun pins s σ H Q I h => ?_⟩
  refine isTrue_IfExp (thn (hc.run pins s σ H _ I h) fun d s1 ⟨H1, I1, q1⟩ => ?_)
  cases d with
  | true => exact ha.run pins s1 σ H1 Q I1 q1
  | false => exact hb.run pins s1 σ H1 Q I1 q1
theorem post_up {α : Type} {r : R α} {P P' : α → Prop} {w : Wh} {σ : St} {H H1 : Hp} (h : post r P (w.E σ H)) (s : Up H H1) (hp : ∀ a, P a → P' a) : post r P' (w.E σ H1) := post_mono h hp fun _ e => Wh.E.up e s
theorem snd_ite (hc : Snd X cl W c fc) (ha : Snd X cl W a fa) (hb : Snd X cl W b fb) : Snd X cl W (.IfExp c a b pos) fun ρ => (fc ρ).bind fun x => (truth x).bind fun k => if k then fa ρ else fb ρ := by
  refine ⟨pe_imp (pe_ifExp hc.pt ha.pe hb.pe) fun σ H Q ⟨S, ρ, hS, hr, h⟩ => ?_, pt_imp (pt_ifExp hc.pt ha.pt hb.pt) fun σ H Q ⟨S, ρ, hS, hr, h⟩ => ?_⟩
  · simp only [post_bind] at h
    refine ⟨S, ρ, hS, hr, post_bind.mpr (post_mono h (fun d p => post_mono p (fun k q H' S' g => ?_) fun _ z => z) fun _ z => z)⟩
    cases k with
    | true =>
      simp only [if_true] at q ⊢
      exact ⟨S', ρ, g.in_, hr.sub g.s, post_up q g.h fun d q v H2 S2 g2 r => q v H2 S2 (g.trans g2) r⟩
    | false =>
      simp only [Bool.false_eq_true, if_false] at q ⊢
      exact ⟨S', ρ, g.in_, hr.sub g.s, post_up q g.h fun d q v H2 S2 g2 r => q v H2 S2 (g.trans g2) r⟩
  · simp only [post_bind] at h
    refine ⟨S, ρ, hS, hr, post_bind.mpr (post_mono h (fun d p => post_mono p (fun k q H' S' g => ?_) fun _ z => z) fun _ z => z)⟩
    cases k with
    | true =>
      simp only [if_true] at q ⊢
      exact ⟨S', ρ, g.in_, hr.sub g.s, post_bind.mpr (post_up q g.h fun d q => post_up q g.h fun b q H2 S2 g2 => q H2 S2 (g.trans g2))⟩
    | false =>
      simp only [Bool.false_eq_true, if_false] at q ⊢
      exact ⟨S', ρ, g.in_, hr.sub g.s, post_bind.mpr (post_up q g.h fun d q => post_up q g.h fun b q H2 S2 g2 => q H2 S2 (g.trans g2))⟩

/-! ### arguments, displays -/
abbrev SndA (X : Cx) (cl : Nat → Value) (W : WX) (es : List Expr) (f : Env → R PyData) : Prop := PA X es (tDA (wh X cl W) f)
theorem sndA_nil : SndA X cl W [] fun _ => .ok (.tuple []) := pa_imp pa_nil fun σ H Q ⟨S, ρ, hS, hr, h⟩ => h [] H S (Grow.refl hS) RpA.nil
theorem sndA_cons (ha : Snd X cl W a fa) (hb : SndA X cl W es fb) (hs : notStar a = true) : SndA X cl W (a :: es) fun ρ => (fa ρ).bind fun x => (fb ρ).bind (consD x) := by
  refine pa_imp (pa_cons ha.pe hb (star_cons hs)) fun σ H Q ⟨S, ρ, hS, hr, h⟩ => ?_
  simp only [post_bind] at h
  refine td_one hS hr h fun x vx H1 S1 p1 g1 q1 => ⟨S1, ρ, g1.in_, hr.sub g1.s, post_up p1 g1.h fun y p2 => ?_⟩
  cases y <;> simp only [consD] at p2 <;> try exact p2.elim
  exact fun vs H' S' g r => p2 _ H' S' (g1.trans g) (RpA.cons (Rp.sub g.s x vx q1) r)
theorem tda_one {S : Hp} {ρ : Env} {σ : St} {H : Hp} {r : List V → Hp → Prop} (hS : In S H) (hr : ShR X.K S σ ρ) {P : PyData → Prop}
    (h : post (f ρ) P ((wh X cl W).E σ H)) (hn : ∀ d, P d → ∃ ds, d = .tuple ds) (hP : ∀ ds vs H' S', P (.tuple ds) → Grow H S H' S' → RpA X.K S' ds vs → r vs H') : tDA (wh X cl W) f σ H r :=
  ⟨S, ρ, hS, hr, post_mono h (fun d p => by
    obtain ⟨ds, e⟩ := hn d p
    subst e
    exact fun vs H' S' g q => hP ds vs H' S' p g q) fun _ e => e⟩
theorem snd_tup {k : Nat} (h : SndA X cl W es f) (hz : ∀ ρ d, f ρ = .ok d → ∃ ds, d = .tuple ds ∧ ds.length ≤ big) : Snd X cl W (.Tuple es k pos) f := by
  refine Snd.of (pe_imp (pe_tup h) fun σ H Q ⟨S, ρ, hS, hr, h⟩ => ?_) rfl
  refine tda_one (P := fun d => f ρ = .ok d ∧ ∀ v H' S', Grow H S H' S' → Rp X.K S' d v → Q v H') hS hr (post_monoR h (fun d e q => ⟨e, q⟩) fun _ z => z) (fun d p => ?_) fun ds vs H' S' p g r => ?_
  · obtain ⟨ds, e, _⟩ := hz ρ d p.1
    exact ⟨ds, e⟩
  · obtain ⟨ds', e, hl⟩ := hz ρ _ p.1
    cases e
    exact ⟨by rw [r.length]; exact Nat.le_trans hl bigLine, fun q n => p.2 _ _ _ (g.trans (Grow.laid g.in_ n _)) (Rp.tup upd_same (r.sub (sub_upd (g.in_.no n))))⟩
theorem snd_lst (h : SndA X cl W es f) (hz : ∀ ρ d, f ρ = .ok d → ∃ ds, d = .tuple ds ∧ ds.length ≤ big) : Snd X cl W (.List es pos) fun ρ => (f ρ).bind lstD := by
  refine Snd.of (pe_imp (pe_lst h) fun σ H Q ⟨S, ρ, hS, hr, h⟩ => ?_) rfl
  simp only [post_bind] at h
  refine tda_one (P := fun d => f ρ = .ok d ∧ post (lstD d) (fun d => ∀ v H' S', Grow H S H' S' → Rp X.K S' d v → Q v H') ((wh X cl W).E σ H)) hS hr (post_monoR h (fun d e q => ⟨e, q⟩) fun _ z => z) (fun d p => ?_) fun ds vs H' S' p g r => ?_
  · obtain ⟨ds, e, _⟩ := hz ρ d p.1
    exact ⟨ds, e⟩
  · obtain ⟨ds', e, hl⟩ := hz ρ _ p.1
    cases e
    exact ⟨by rw [r.length]; exact Nat.le_trans hl bigLine, fun q n => p.2 _ _ _ (g.trans (Grow.laid g.in_ n _)) (Rp.lst upd_same (r.sub (sub_upd (g.in_.no n))))⟩

/-! ### subscripts, slices -/
theorem snd_sub (ha : Snd X cl W a fa) (hb : Snd X cl W b fb) (hs : plainIx b = true) : Snd X cl W (.Subscript a b pos) fun ρ => (fa ρ).bind fun x => (fb ρ).bind fun y => subD x y := by
  refine Snd.of (pe_imp (pe_ix ixr ha.pe hb.pe (plain_ix hs)) fun σ H Q ⟨S, ρ, hS, hr, h⟩ => ?_) rfl
  simp only [post_bind] at h
  exact td_two hS hr h fun x y vx vy H2 S2 p g qx qy => ⟨S2, x, y, g.in_, qx, qy, quiet_post (quiet_subD x y) (post_mono p (fun d q v H' S' g' r => q v H' S' (g.trans g') r) fun _ z => z)⟩
abbrev SndO (X : Cx) (cl : Nat → Value) (W : WX) (o : Option Expr) (f : Env → R PyData) : Prop := PO X o (tDO (wh X cl W) f)
theorem po_imp {o : Option Expr} {t t' : TO} (h : PO X o t) (hi : ∀ σ H Q, t' σ H Q → t σ H Q) : PO X o t' := ⟨fun pins s σ H Q I q => h.run pins s σ H Q I (hi σ H Q q)⟩
theorem sndO_none : SndO X cl W none fun _ => .ok .none := po_imp po_none fun σ H Q ⟨S, ρ, hS, hr, h⟩ => h H S (Grow.refl hS)
theorem sndO_some (ha : Snd X cl W a fa) : SndO X cl W (some a) fun ρ => (fa ρ).bind numD := by
  refine po_imp (po_some ha.pe) fun σ H Q ⟨S, ρ, hS, hr, h⟩ => ?_
  simp only [post_bind] at h
  refine td_one hS hr h fun d v H' S' p g q => ?_
  cases d <;> simp only [numD] at p <;> try exact p.elim
  cases rp_int q
  exact ⟨_, rfl, p H' S' g⟩
theorem snd_slice {lo hi : Option Expr} {p2 : Pos} (ha : Snd X cl W a fa) (hl : SndO X cl W lo fb) (hh : SndO X cl W hi fc) :
    Snd X cl W (.Subscript a (.Slice lo hi none p2) pos) fun ρ => (fa ρ).bind fun x => (fb ρ).bind fun l => (partD l).bind fun l' => (fc ρ).bind fun h => (partD h).bind fun h' => sliceD x l' h' := by
  refine Snd.of (pe_imp (pe_slice slr ha.pe hl hh) fun σ H Q ⟨S, ρ, hS, hr, h⟩ => ?_) rfl
  simp only [post_bind] at h
  refine td_one hS hr h fun x vx H1 S1 p1 g1 q1 => ⟨S1, ρ, g1.in_, hr.sub g1.s, post_bind.mpr ?_⟩
  refine post_up p1 g1.h fun l p2 => post_up p2 g1.h fun l' p3 H2 S2 g2 => ?_
  refine ⟨S2, ρ, g2.in_, (hr.sub g1.s).sub g2.s, post_bind.mpr (post_up p3 (g1.h.trans g2.h) fun u p4 => post_up p4 (g1.h.trans g2.h) fun u' p5 H3 S3 g3 => ?_)⟩
  exact ⟨S3, x, g3.in_, Rp.sub g3.s x vx (Rp.sub g2.s x vx q1), quiet_post (quiet_sliceD x l' u') (post_mono p5 (fun d q v H' S' g' r => q v H' S' (((g1.trans g2).trans g3).trans g') r) fun _ z => z)⟩
theorem snd_revL {k : Nat} {p1 p2 p3 : Pos} (ha : Snd X cl W a fa) : Snd X cl W (.Subscript a (.Slice none none (some (.UnaryOp .USub (.Constant (.int 1) k p1) p2)) p3) pos) fun ρ => (fa ρ).bind revD := by
  refine Snd.of (pe_imp (pe_revL ha.pe) fun σ H Q ⟨S, ρ, hS, hr, h⟩ => ?_) rfl
  simp only [post_bind] at h
  refine td_one hS hr h fun d v H' S' p g q => ?_
  cases d <;> simp only [revD] at p <;> try exact p.elim
  simp only [Rp] at q
  obtain ⟨l, vs, rfl, hl, rl⟩ := q
  exact ⟨l, vs, rfl, SqL.ofS (g.in_ _ _ hl), fun q n => p _ _ _ (g.trans (Grow.laid g.in_ n _)) (Rp.lst upd_same (rl.reverse.sub (sub_upd (g.in_.no n))))⟩

/-! ### calls -/
/-- a def over data: run tells what it gives of all its arguments -/
def spD (K : PySem.W.Frag) (cl : Nat → Value) (run : List PyData → R PyData) (n : Nat) : Sp := fun vs H Q E => vs.length = n ∧ ∃ S ds, In S H ∧ RpA K S ds vs ∧
  post (run ds) (fun d => ∀ v H' S', Grow H S H' S' → Rp K S' d v → Q v H') (fun c => ∀ H', Up H H' → E (cl c) none H')
theorem run_fnD {k : Nat} {g : Addr} {fd : FuncData} {ps : List Str} {sp : Sp} {dvs : List V} {ds : List Value} {E : St → XK} {pins : List (Addr × Obj)} {σ : St} {H : Hp} {s : Shared} {Q : VK} {us : List Value} {vs : List V}
    (F : FnOk X.prog X.w X.K X.mg X.base (L2.CX X.prog X.w) k g fd ps sp) (hr : Room k X.A) (hb : Binds X.K fd ps ds) (hd : Vals dvs ds) (hx : PassesAt (L2.CX X.prog X.w) X σ (E σ))
    (I : Inv X pins σ H s) (r : Vals vs us) (h : sp (vs ++ dvs) H Q (E σ)) : wpAny (model X.prog X.w) X.A (PySem.call (.ref g) us) (EP X pins σ Q) X.xe s := by
  have r2 : Vals (vs ++ dvs) (us ++ ds) := r.append hd
  have hl : (us ++ ds).length = ps.length := by rw [← r2.length]; exact F.len _ _ _ _ h
  refine wpAny_call (codeAny_mono (F.run X.A X.stack s H ⟨us, []⟩ (us ++ ds) (vs ++ dvs) Q (E σ) hr I.env0 (hb s us I.kIn hl) r2 h) fun r s' hq => ?_)
  cases r with
  | error e => exact hx pins H s e s' I hq
  | ok fl =>
    cases fl with
    | ret u => exact I.after hq
    | next => exact False.elim hq
    | brk => exact False.elim hq
    | cont => exact False.elim hq
def tCallD (sp : Sp) (dvs : List V) (E : St → XK) (t : TA) : TE := fun σ H Q => t σ H fun vs H1 => sp (vs ++ dvs) H1 Q (E σ)
theorem pe_callD {k : Nat} {g : Addr} {fd : FuncData} {ps : List Str} {sp : Sp} {dvs : List V} {ds : List Value} {E : St → XK} {x : Str} {p : Pos} {t : TA}
    (F : FnOk X.prog X.w X.K X.mg X.base (L2.CX X.prog X.w) k g fd ps sp) (hr : Room k X.A) (hg : Gl X x) (hm : X.mg x = some (.ref g)) (hk : PySem.W.keepIn X.K (.ref g) = true) (hb : Binds X.K fd ps ds) (hd : Vals dvs ds) (hx : ∀ σ, PassesAt (L2.CX X.prog X.w) X σ (E σ))
    (ha : PA X (e :: es) t) (hdb : (x == ("__debug__" : Str)) = false) (he : starEach (e :: es) X.env = (false, eval e X.env) :: starEach es X.env) (hpl : (backTo pos (starEach es X.env)).any (·.1) = false) :
    PE X (.Call (.Name x p) (e :: es) [] pos) (tCallD sp dvs E t) := by
  refine ⟨fun pins s σ H Q I h => ?_⟩
  refine wpAny_Call_Name_kw (ld_glob I hg hm ?_ hdb)
  refine PySem.W.callWith_K (h₀ := X.base) I.ok.mod.kin hk (thn (ha.run pos pins s σ H _ I h) fun us s1 ⟨vs, H1, I1, r, q⟩ => ⟨I1.kIn, ?_⟩) he hpl
  exact run_fnD F hr hb hd (hx σ) I1 r q
theorem snd_call {k : Nat} {g : Addr} {fd : FuncData} {ps : List Str} {dfl : List PyData} {dvs : List V} {ds : List Value} {x : Str} {p : Pos} {run : List PyData → R PyData}
    (F : FnOk X.prog X.w X.K X.mg X.base (L2.CX X.prog X.w) k g fd ps (spD X.K cl run ps.length)) (hr : Room k X.A) (hg : Gl X x) (hm : X.mg x = some (.ref g)) (hk : PySem.W.keepIn X.K (.ref g) = true) (hb : Binds X.K fd ps ds) (hd : Vals dvs ds) (hdf : ∀ S, RpA X.K S dfl dvs)
    (tk : Takes X W) (ha : SndA X cl W (e :: es) f) (hdb : (x == ("__debug__" : Str)) = false) (hns : (e :: es).all notStar = true) (hn : ∀ ρ d, f ρ = .ok d → ∃ as, d = .tuple as ∧ as.length + dfl.length = ps.length) :
    Snd X cl W (.Call (.Name x p) (e :: es) [] pos) fun ρ => (f ρ).bind (unT fun xs => run (xs ++ dfl)) := by
  rw [List.all_cons, Bool.and_eq_true] at hns
  refine Snd.of (pe_imp (pe_callD F hr hg hm hk hb hd (fun σ => passAt tk σ) ha hdb (star_cons hns.1) (back_any hns.2)) fun σ H Q ⟨S, ρ, hS, hr', h⟩ => ?_) rfl
  simp only [post_bind] at h
  refine tda_one (P := fun d => f ρ = .ok d ∧ post (unT (fun xs => run (xs ++ dfl)) d) (fun d => ∀ v H' S', Grow H S H' S' → Rp X.K S' d v → Q v H') ((wh X cl W).E σ H)) hS hr' (post_monoR h (fun d e q => ⟨e, q⟩) fun _ z => z) (fun d p => ?_) fun as vs H' S' p g r => ?_
  · obtain ⟨as, e, _⟩ := hn ρ d p.1
    exact ⟨as, e⟩
  · obtain ⟨as', e, hl⟩ := hn ρ _ p.1
    cases e
    have rr := RpA.append r (hdf S')
    refine ⟨by rw [rr.length, List.length_append]; exact hl, S', _, g.in_, rr, post_mono p.2 (fun d q v H2 S2 g2 r2 => q v H2 S2 (g.trans g2) r2) fun c e H2 s2 => e H2 (g.h.trans s2)⟩

/-! ### built-ins -/
theorem snd_blt {bb : Blt} {p : Pos} (hc : X.calm = true) (hg : Gl X bb.nm) (hm : X.mg bb.nm = none) (ha : SndA X cl W (e :: es) f) (hns : (e :: es).all notStar = true) (hn : ∀ ρ d, f ρ = .ok d → ∃ as, d = .tuple as) :
    Snd X cl W (.Call (.Name bb.nm p) (e :: es) [] pos) fun ρ => (f ρ).bind (unT (bltD bb)) := by
  rw [List.all_cons, Bool.and_eq_true] at hns
  have key : PE X (.Call (.Name bb.nm p) (e :: es) [] pos) (tCB (rBl X.K bb) (tDA (wh X cl W) f)) := by
    have hb := Blt.boot bb
    have h1 : bb.nm ≠ "__name__" := by cases bb <;> decide
    have h2 : (bb.nm == ("__debug__" : Str)) = false := by cases bb <;> decide
    have hr := blr hc bb
    revert hr hb
    cases hq : bb.fn with
    | builtin id => exact fun hb hr => pe_callB hr hg hm hb ha h1 h2 (star_cons hns.1) (back_any hns.2)
    | type T => exact fun hb hr => pe_callTy hr hg hm hb ha h1 h2 (star_cons hns.1) (back_any hns.2)
    | _ => cases bb <;> cases hq
  refine Snd.of (pe_imp key fun σ H Q ⟨S, ρ, hS, hr', h⟩ => ?_) rfl
  simp only [post_bind] at h
  refine tda_one (P := fun d => f ρ = .ok d ∧ post (unT (bltD bb) d) (fun d => ∀ v H' S', Grow H S H' S' → Rp X.K S' d v → Q v H') ((wh X cl W).E σ H)) hS hr' (post_monoR h (fun d e q => ⟨e, q⟩) fun _ z => z) (fun d p => hn ρ d p.1) fun as vs H' S' p g r => ?_
  exact ⟨S', as, g.in_, r, quiet_post (quiet_bltD bb as) (post_mono p.2 (fun d q v H2 S2 g2 r2 => q v H2 S2 (g.trans g2) r2) fun _ z => z)⟩
theorem kit_some {K : PySem.W.Frag} {a b : String} {P : Bool → Prop} {E : Nat → Prop} (h : post (match kitB a b with
    | some k => R.ok k
    | none => R.bad) P E) : ∃ k, PySem.W.kitOne K (.type a) (.type b) = some k ∧ P k := by
  cases e : kitB a b with
  | none => rw [e] at h; exact h.elim
  | some k => rw [e] at h; exact ⟨k, kit_ty e, h⟩
theorem snd_isi {T : String} {x : Str} {p p2 : Pos} (hg : Gl X "isinstance") (hm : X.mg "isinstance" = none) (hgT : Gl X x) (hmT : X.mg x = none) (hvT : bootBuiltins x = some (.type T)) (hnT : x ≠ "__name__") (hdT : (x == ("__debug__" : Str)) = false)
    (ha : Snd X cl W a fa) (hns : notStar a = true) : Snd X cl W (.Call (.Name "isinstance" p) [a, .Name x p2] [] pos) fun ρ => (fa ρ).bind fun y => (isiD y T).bind fun k => .ok (.bool k) := by
  have ht : PE X (.Name x p2) (tC (.ty T)) := pe_bltn hgT hmT hvT rfl hnT hdT
  have hA : PA X [a, .Name x p2] (tCons (tD (wh X cl W) fa) (tCons (tC (.ty T)) tNil)) := pa_cons ha.pe (pa_cons ht pa_nil (star_cons rfl)) (star_cons hns)
  refine Snd.of (pe_imp (pe_callB call_isi hg hm boot_isinstance hA (by decide) (by decide) (star_cons hns) (back_any (by rfl))) fun σ H Q ⟨S, ρ, hS, hr, h⟩ => ?_) rfl
  simp only [post_bind] at h
  refine td_one hS hr h fun d v H' S' p g q => ?_
  have go : ∀ (t : String) (P : Bool → Prop) (E : Nat → Prop), post (match kitB t T with
    | some k => R.ok k
    | none => R.bad) P E → (∀ k, P k → Q (.bl k) H') → TyX X.K H' v (.type t) → rIsi X.K [v, .ty T] H' Q := fun t P E h hP ty => by
    obtain ⟨k, e1, e2⟩ := kit_some (K := X.K) h
    exact ⟨v, .ty T, .type t, .type T, k, rfl, .ty T, ty, e1, hP k e2⟩
  cases d <;> simp only [isiD] at p <;> try exact p.elim
  · cases rp_none q; exact go _ _ _ p (fun k z => z _ H' S' g (rpB _)) (.base .non)
  · cases rp_bool q; exact go _ _ _ p (fun k z => z _ H' S' g (rpB _)) (.base (.bl _))
  · cases rp_int q; exact go _ _ _ p (fun k z => z _ H' S' g (rpB _)) (.base (.int _))
  · cases rp_str q; exact go _ _ _ p (fun k z => z _ H' S' g (rpB _)) (.base (.str _))
  · simp only [Rp] at q
    obtain ⟨l, vs, rfl, hl, rl⟩ := q
    exact go _ _ _ p (fun k z => z _ H' S' g (rpB _)) (.base (.lst (g.in_ _ _ hl)))
  · simp only [Rp] at q
    obtain ⟨l, vs, rfl, hl, rl⟩ := q
    refine go _ _ _ p (fun k z => z _ H' S' g (rpB _)) ?_
    rcases hl with (hl | ⟨o, hl⟩) | ⟨o, its, n, hl, hc, _⟩
    · exact .base (.tup (g.in_ _ _ hl))
    · exact .fTuple (g.in_ _ _ hl)
    · exact .kTuple hl hc
end
end DL
namespace DL
open PySem PySem.Spec PyProof.Rows L2
variable [Tabs]

/-! ### what is walked, over data -/
/-- J yields just the data ds, while what is in S stays -/
structure Yl (K : PySem.W.Frag) (J : It) (S : Hp) (ds : List PyData) : Prop where
  go : ∀ H i, Sub S H → i < ds.length → J.go i H
  stop : ∀ H, Sub S H → J.stop ds.length H
  yld : ∀ H S1 i x H' d, Sub S S1 → In S1 H → ds[i]? = some d → J.yld i H x H' → ∃ S', Grow H S1 H' S' ∧ Rp K S' d x
def tDI (w : Wh) (f : Env → R PyData) : TI := fun σ H Q => ∃ S ρ, In S H ∧ ShR w.K S σ ρ ∧
  post (f ρ) (fun d => match d with
    | .list ds => ∀ J H' S', Grow H S H' S' → Yl w.K J S' ds → Q J H'
    | _ => False) (w.E σ H)
theorem pi_imp {X : Cx} {tg e : Expr} {t t' : TI} (h : PI X tg e t) (hi : ∀ σ H Q, t' σ H Q → t σ H Q) : PI X tg e t' := ⟨fun pins s σ H Q I q => h.run pins s σ H Q I (hi σ H Q q)⟩
section
variable {K : PySem.W.Frag} {S : Hp}
theorem yl_list {a : Addr} {vs : List V} {ds : List PyData} (ha : S a = some (.lst vs)) (hr : RpA K S ds vs) (huniq : ∀ H, Sub S H → ∀ xs, SqL K H a xs → True) : Yl K (Itl K a) S ds where
  go := fun H i hS hi => by
    have hl := hr.length
    exact ⟨vs, vs[i]'(by omega), SqL.ofS (hS _ _ ha), List.getElem?_eq_getElem _⟩
  stop := fun H hS => ⟨vs, SqL.ofS (hS _ _ ha), by rw [hr.length]; exact Nat.le_refl _⟩
  yld := fun H S1 i x H' d h1 h2 hd ⟨e, hx⟩ => by
    subst e
    obtain ⟨v, hv, hrv⟩ := hr.get hd
    have q := hx vs (SqL.ofS ((h1.trans h2.sub) _ _ ha))
    rw [hv] at q
    cases q
    exact ⟨S1, Grow.refl h2, Rp.sub h1 d _ hrv⟩
theorem yl_tup {a : Addr} {vs : List V} {ds : List PyData} (ha : SqT K S a vs) (hr : RpA K S ds vs) : Yl K (Itt K a) S ds where
  go := fun H i hS hi => by
    have hl := hr.length
    exact ⟨vs, vs[i]'(by omega), SqT.sub hS ha, List.getElem?_eq_getElem _⟩
  stop := fun H hS => ⟨vs, SqT.sub hS ha, by rw [hr.length]; exact Nat.le_refl _⟩
  yld := fun H S1 i x H' d h1 h2 hd ⟨e, hx⟩ => by
    subst e
    obtain ⟨v, hv, hrv⟩ := hr.get hd
    have q := hx vs (SqT.sub (h1.trans h2.sub) ha)
    rw [hv] at q
    cases q
    exact ⟨S1, Grow.refl h2, Rp.sub h1 d _ hrv⟩
omit [Tabs] in
theorem rng_length (lo : Int) (n : Nat) : (rng lo n).length = n := by unfold rng; rw [List.length_map, List.length_range]
omit [Tabs] in
theorem rng_get {lo : Int} {n i : Nat} {d : PyData} (h : (rng lo n)[i]? = some d) : d = .int (lo + (i : Nat)) := by
  unfold rng at h
  rw [List.getElem?_map] at h
  by_cases c : i < n
  · rw [List.getElem?_range c] at h
    exact (Option.some.inj h).symm
  · rw [List.getElem?_eq_none (by rw [List.length_range]; omega)] at h
    cases h
theorem yl_rng {lo : Int} {n : Nat} : Yl K (Itr lo n) S (rng lo n) where
  go := fun H i hS hi => by rw [rng_length] at hi; exact hi
  stop := fun H hS => by rw [rng_length]; exact Nat.le_refl _
  yld := fun H S1 i x H' d h1 h2 hd ⟨e, hx⟩ => by
    subst e hx
    rw [rng_get hd]
    exact ⟨S1, Grow.refl h2, rpI _⟩
theorem yl_rngC {lo c : Int} {n : Nat} : Yl K (Itc lo c n) S ((List.range n).map fun k => PyData.int (lo + (k : Nat) * c)) where
  go := fun H i hS hi => by rw [List.length_map, List.length_range] at hi; exact hi
  stop := fun H hS => by rw [List.length_map, List.length_range]; exact Nat.le_refl _
  yld := fun H S1 i x H' d h1 h2 hd ⟨e, hx⟩ => by
    subst e hx
    refine ⟨S1, Grow.refl h2, ?_⟩
    rw [List.getElem?_map] at hd
    by_cases q : i < n
    · rw [List.getElem?_range q] at hd
      cases hd
      exact rpI _
    · rw [List.getElem?_eq_none (by rw [List.length_range]; omega)] at hd
      cases hd
end
section
variable {X : Cx} {cl : Nat → Value} {W : WX} {e a b c tg : Expr} {es : List Expr} {f fa fb fc : Env → R PyData} {pos : Pos} {call : Nat → List PyData → R PyData}
theorem at_list {pins : List (Addr × Obj)} {σ : St} {H1 : Hp} {s1 : Shared} {Rr : It → Hp → Prop} {l : Addr} {vs : List V} (I1 : Inv X pins σ H1 s1) (hq : SqL X.K H1 l vs) (q : Rr (Itl X.K l) H1) :
    wpAny (model X.prog X.w) X.A (pyIter (.ref l)) (PIE X pins σ tg Rr) X.xe s1 := by
  obtain ⟨its, rv, p, hz⟩ := I1.list hq
  refine wpAny_pyIter_list p.isList ?_
  refine ⟨s1.heap.objs.size, [s1.heap.objs.size], _, _, H1, rfl, I1.kept (t' := s1.toks) fun b o e => Heap.get?_push_of_some _ e, turn_list l _, ⟨_, Heap.get?_push_size _ rfl, rfl, rfl⟩, fun b hb => ?_, q⟩
  have e : b = s1.heap.objs.size := by simpa using hb
  subst e
  exact I1.fpOk (Nat.le_refl _) (I1.hok.fresh (Nat.le_refl _))
theorem at_tup {pins : List (Addr × Obj)} {σ : St} {H1 : Hp} {s1 : Shared} {Rr : It → Hp → Prop} {l : Addr} {vs : List V} (I1 : Inv X pins σ H1 s1) (hq : SqT X.K H1 l vs) (q : Rr (Itt X.K l) H1) :
    wpAny (model X.prog X.w) X.A (pyIter (.ref l)) (PIE X pins σ tg Rr) X.xe s1 := by
  obtain ⟨its, rv, p, hz⟩ := I1.tuple hq
  refine wpAny_pyIter_tuple (show s1.heap.IsTuple l its.toArray from p) ?_
  refine ⟨s1.heap.objs.size, [s1.heap.objs.size], _, _, H1, rfl, I1.kept (t' := s1.toks) fun b o e => Heap.get?_push_of_some _ e, turn_tuple l _, ⟨_, Heap.get?_push_size _ rfl, rfl, rfl⟩, fun b hb => ?_, q⟩
  have e : b = s1.heap.objs.size := by simpa using hb
  subst e
  exact I1.fpOk (Nat.le_refl _) (I1.hok.fresh (Nat.le_refl _))
abbrev SndI (X : Cx) (cl : Nat → Value) (W : WX) (tg e : Expr) (f : Env → R PyData) : Prop := PI X tg e (tDI (wh X cl W) f)
theorem sndI_seq (he : Snd X cl W e f) : SndI X cl W tg e fun ρ => (f ρ).bind fun x => (seqOf x).bind fun xs => .ok (.list xs) := by
  refine ⟨fun pins s σ H Rr I ⟨S, ρ, hS, hr, h⟩ => ?_⟩
  simp only [post_bind] at h
  refine thn (he.pe.run pins s σ H (fun v H1 => ∃ S1 d, Grow H S H1 S1 ∧ Rp X.K S1 d v ∧ post (seqOf d) (fun xs => ∀ J H' S', Grow H S H' S' → Yl X.K J S' xs → Rr J H') ((wh X cl W).E σ H)) I
    ⟨S, ρ, hS, hr, post_mono h (fun d p v H' S' g q => ⟨S', d, g, q, p⟩) fun _ z => z⟩) fun v s1 ⟨x, H1, I1, r1, S1, d, g, q, p⟩ => ?_
  cases d <;> simp only [seqOf] at p <;> try exact p.elim
  · simp only [Rp] at q
    obtain ⟨l, vs, rfl, hl, rl⟩ := q
    cases r1
    exact at_list I1 (SqL.ofS (g.in_ _ _ hl)) (p _ _ _ g (yl_list hl rl fun _ _ _ _ => trivial))
  · simp only [Rp] at q
    obtain ⟨l, vs, rfl, hl, rl⟩ := q
    cases r1
    exact at_tup I1 (SqT.sub g.in_.sub hl) (p _ _ _ g (yl_tup hl rl))
theorem bnd_ok {i : Int} (h : bnd i = true) : -(2 ^ 62) ≤ i ∧ i < 2 ^ 62 := by
  have h := Nat.blt_eq.mp h
  have e : (2 : Int) ^ 62 = 4611686018427387904 := by decide
  rw [e]
  omega
theorem sndI_range1 {p : Pos} (hg : Gl X "range") (hm : X.mg "range" = none) (ha : Snd X cl W a f) (hs : notStar a = true) : SndI X cl W tg (.Call (.Name "range" p) [a] [] pos) fun ρ => (f ρ).bind r1D := by
  refine pi_imp (pi_range1 hg hm (pa_cons ha.pe pa_nil (star_cons hs)) (by rw [star_cons hs]; rfl)) fun σ H Q ⟨S, ρ, hS, hr, h⟩ => ?_
  simp only [post_bind] at h
  refine td_one hS hr h fun d v H' S' p g q => ?_
  cases d <;> simp only [r1D] at p <;> try exact p.elim
  cases rp_int q
  obtain ⟨hz, p⟩ := post_if p
  obtain ⟨h1, h2⟩ := bnd_ok hz
  exact ⟨_, rfl, h1, h2, p _ _ _ g yl_rng⟩
theorem sndI_range2 {p : Pos} (hg : Gl X "range") (hm : X.mg "range" = none) (ha : Snd X cl W a fa) (hb : Snd X cl W b fb) (hs : notStar a = true) (hs2 : notStar b = true) : SndI X cl W tg (.Call (.Name "range" p) [a, b] [] pos) fun ρ => (fa ρ).bind fun x => (fb ρ).bind (r2D x) := by
  refine pi_imp (pi_range2 hg hm (pa_cons ha.pe (pa_cons hb.pe pa_nil (star_cons hs2)) (star_cons hs)) (by rw [star_cons hs, star_cons hs2]; rfl) (by rw [star_cons hs2]; rfl)) fun σ H Q ⟨S, ρ, hS, hr, h⟩ => ?_
  simp only [post_bind] at h
  refine td_one hS hr h fun x vx H1 S1 p1 g1 q1 => td_one g1.in_ (hr.sub g1.s) (post_up p1 g1.h fun _ z => z) fun y vy H' S' p g q2 => ?_
  cases x <;> cases y <;> simp only [r2D] at p <;> try exact p.elim
  cases rp_int q1
  cases rp_int q2
  obtain ⟨hz, p⟩ := post_if p
  rw [Bool.and_eq_true] at hz
  obtain ⟨h1, h2⟩ := bnd_ok hz.1
  obtain ⟨h3, h4⟩ := bnd_ok hz.2
  exact ⟨_, _, rfl, ⟨h1, h2, h3, h4⟩, p _ _ _ (g1.trans g) yl_rng⟩

theorem sndI_range3 {p : Pos} (hg : Gl X "range") (hm : X.mg "range" = none) (ha : Snd X cl W a fa) (hb : Snd X cl W b fb) (hc : Snd X cl W c fc) (hs : notStar a = true) (hs2 : notStar b = true) (hs3 : notStar c = true) : SndI X cl W tg (.Call (.Name "range" p) [a, b, c] [] pos) fun ρ => (fa ρ).bind fun x => (fb ρ).bind fun y => (fc ρ).bind (r3D x y) := by
  refine pi_imp (pi_range3 hg hm (pa_cons ha.pe (pa_cons hb.pe (pa_cons hc.pe pa_nil (star_cons hs3)) (star_cons hs2)) (star_cons hs)) (star_cons hs) (back_any (by simp [hs2, hs3]))) fun σ H Q ⟨S, ρ, hS, hr, h⟩ => ?_
  simp only [post_bind] at h
  refine td_one hS hr h fun x vx H1 S1 p1 g1 q1 => td_one g1.in_ (hr.sub g1.s) (post_up p1 g1.h fun _ z => z) fun y vy H2 S2 p2 g2 q2 => td_one g2.in_ ((hr.sub g1.s).sub g2.s) (post_up p2 (g1.trans g2).h fun _ z => z) fun z vz H' S' p g q3 => ?_
  unfold r3D at p
  split at p
  · cases rp_int q1
    cases rp_int q2
    cases rp_int q3
    obtain ⟨⟨z1, z2, z3, z4⟩, p⟩ := post_if p
    exact ⟨_, _, _, _, rfl, ⟨z1, z2, z3, (Int.toNat_of_nonneg z4).symm⟩, p _ _ _ ((g1.trans g2).trans g) yl_rngC⟩
  · exact p.elim

/-! ### targets -/
def setAll : List Nat → List V → St → St
  | i :: is, v :: vs, σ => setAll is vs (σ.set i (some v))
  | _, _, σ => σ
def gT (K : PySem.W.Frag) (t : Tg) : TG := fun v σ H Q => match t with
  | .one i => Q (σ.set i (some v)) H
  | .many is => ∃ a xs, v = .ref a ∧ SqT K H a xs ∧ xs.length = is.length ∧ Q (setAll is xs σ) H
def gA (is : List Nat) : TGs := fun vs σ H Q => vs.length = is.length ∧ Q (setAll is vs σ) H
theorem pg_imp {t t' : TG} (h : PG X e t) (hi : ∀ v σ H Q, t' v σ H Q → t v σ H Q) : PG X e t' := ⟨fun pins s σ H v u Q I r q => h.run pins s σ H v u Q I r (hi v σ H Q q)⟩
theorem pgs_imp {t t' : TGs} (h : PGs X es t) (hi : ∀ v σ H Q, t' v σ H Q → t v σ H Q) : PGs X es t' := ⟨fun pins s σ H v u Q I r q => h.run pins s σ H v u Q I r (hi v σ H Q q)⟩
/-- plain names -/
def namesOf : List Expr → Option (List Str)
  | [] => some []
  | .Name x _ :: r => (match namesOf r with
    | some xs => some (x :: xs)
    | none => none)
  | _ :: _ => none
/-- the names' places -/
def ixAll (N : List Str) : List Str → List Nat → Bool
  | [], [] => true
  | x :: xs, i :: is => decide (N[i]? = some x) && ixAll N xs is
  | _, _ => false
theorem names_each {env : PySem.Env} : ∀ {es : List Expr} {xs : List Str}, namesOf es = some xs → (assignEach es env).length = es.length ∧ (assignEach es env).findIdx? (·.1) = none ∧ xs.length = es.length
  | [], xs, h => by
    simp only [namesOf, Option.some.injEq] at h
    subst h
    exact ⟨rfl, rfl, rfl⟩
  | e :: es, xs, h => by
    cases e <;> simp only [namesOf] at h <;> try cases h
    rename_i x p
    cases q : namesOf es with
    | none => rw [q] at h; cases h
    | some ys =>
      rw [q] at h
      simp only [Option.some.injEq] at h
      subst h
      obtain ⟨h1, h2, h3⟩ := names_each (env := env) q
      refine ⟨?_, ?_, by rw [List.length_cons, List.length_cons, h3]⟩
      · show ((false, _) :: assignEach es env).length = _
        rw [List.length_cons, List.length_cons, h1]
      · show ((false, assign (.Name x p) env) :: assignEach es env).findIdx? (·.1) = none
        rw [List.findIdx?_cons, if_neg (by simp), h2]
        rfl
theorem pgs_names (hN : X.N.Nodup) : ∀ {es : List Expr} {xs : List Str} {is : List Nat}, namesOf es = some xs → ixAll X.N xs is = true → (∀ x ∈ xs, Loc X.env.scope x ∧ (X.fn x = true ∨ X.env.scope.names.lookup x = some .local)) → PGs X es (gA is)
  | [], xs, is, h, hi, hl => by
    simp only [namesOf, Option.some.injEq] at h
    subst h
    cases is with
    | nil =>
      refine pgs_imp pgs_nil fun v σ H Q ⟨h1, h2⟩ => ?_
      have e := List.length_eq_zero_iff.mp h1
      subst e
      exact ⟨rfl, h2⟩
    | cons => simp [ixAll] at hi
  | e :: es, xs, is, h, hi, hl => by
    cases e <;> simp only [namesOf] at h <;> try cases h
    rename_i x p
    cases q : namesOf es with
    | none => rw [q] at h; cases h
    | some ys =>
      rw [q] at h
      simp only [Option.some.injEq] at h
      subst h
      cases is with
      | nil => simp [ixAll] at hi
      | cons i is =>
        simp only [ixAll, Bool.and_eq_true, decide_eq_true_eq] at hi
        have hx := hl x List.mem_cons_self
        refine pgs_imp (pgs_cons (pg_name hN hi.1 hx.1 hx.2) (pgs_names hN q hi.2 fun y hy => hl y (List.mem_cons_of_mem _ hy)) rfl) fun v σ H Q ⟨h1, h2⟩ => ?_
        cases v with
        | nil => simp at h1
        | cons v vs => exact ⟨v, vs, rfl, by simpa using h1, h2⟩
theorem pg_many {k : Nat} {es : List Expr} {xs : List Str} {is : List Nat} (hc : X.calm = true) (hN : X.N.Nodup) (h : namesOf es = some xs) (hi : ixAll X.N xs is = true) (hlen : is.length = es.length) (hl : ∀ x ∈ xs, Loc X.env.scope x ∧ (X.fn x = true ∨ X.env.scope.names.lookup x = some .local)) :
    PG X (.Tuple es k pos) (gT X.K (.many is)) := by
  obtain ⟨h1, h2, h3⟩ := names_each (env := X.env) h
  refine pg_imp (pg_tup (n := es.length) hc (pgs_names hN h hi hl) h1 h2) fun v σ H Q ⟨a, xs, e1, e2, e3, q⟩ => ⟨a, xs, e1, e2, by rw [e3, hlen], e3, q⟩
theorem pg_oneT {i : Nat} {x : Str} (hN : X.N.Nodup) (hi : X.N[i]? = some x) (hx : Loc X.env.scope x) (hf : X.fn x = true ∨ X.env.scope.names.lookup x = some .local) : PG X (.Name x pos) (gT X.K (.one i)) := pg_name hN hi hx hf
theorem shr_set {K : PySem.W.Frag} {S : Hp} {σ : St} {ρ : Env} {i : Nat} {d : PyData} {v : V} (h : ShR K S σ ρ) (hl : i < σ.length) (hr : Rp K S d v) : ShR K S (σ.set i (some v)) (ρ.set i (.sh d)) := by
  intro j s d' e1 e2
  by_cases c : i = j
  · subst c
    by_cases hρ : i < ρ.length
    · rw [List.getElem?_set_self hρ] at e1
      cases e1
      cases e2
      exact ⟨v, List.getElem?_set_self hl, hr⟩
    · rw [List.getElem?_eq_none (by rw [List.length_set]; omega)] at e1
      cases e1
  · rw [List.getElem?_set_ne c] at e1 ⊢
    exact h j s d' e1 e2
omit [Tabs] in
theorem setAll_length : ∀ (is : List Nat) (vs : List V) (σ : St), (setAll is vs σ).length = σ.length
  | [], _, _ => by simp [setAll]
  | _ :: _, [], _ => by simp [setAll]
  | i :: is, v :: vs, σ => by simp only [setAll]; rw [setAll_length is vs]; simp
theorem shr_many {K : PySem.W.Frag} {S : Hp} : ∀ {is : List Nat} {ds : List PyData} {vs : List V} {σ : St} {ρ ρ' : Env}, ShR K S σ ρ → (∀ i ∈ is, i < σ.length) → RpA K S ds vs → bindMany is ds ρ = some ρ' → ShR K S (setAll is vs σ) ρ'
  | [], [], vs, σ, ρ, ρ', h, _, _, e => by
    simp only [bindMany, Option.some.injEq] at e
    subst e
    simpa only [setAll] using h
  | [], _ :: _, _, _, _, _, _, _, _, e => by simp [bindMany] at e
  | _ :: _, [], _, _, _, _, _, _, _, e => by simp [bindMany] at e
  | i :: is, d :: ds, vs, σ, ρ, ρ', h, hl, hr, e => by
    simp only [RpA] at hr
    obtain ⟨v, r, e1, q1, q2⟩ := hr
    subst e1
    simp only [bindMany] at e
    simp only [setAll]
    exact shr_many (shr_set h (hl i List.mem_cons_self) q1) (fun j hj => by rw [List.length_set]; exact hl j (List.mem_cons_of_mem _ hj)) q2 e
def Tg.all : Tg → List Nat
  | .one i => [i]
  | .many is => is
omit [Tabs] in
theorem bindMany_length : ∀ {is : List Nat} {ds : List PyData} {ρ ρ' : Env}, bindMany is ds ρ = some ρ' → ds.length = is.length
  | [], [], _, _, _ => rfl
  | [], _ :: _, _, _, e => by simp [bindMany] at e
  | _ :: _, [], _, _, e => by simp [bindMany] at e
  | i :: is, d :: ds, ρ, ρ', e => by
    simp only [bindMany] at e
    rw [List.length_cons, List.length_cons, bindMany_length e]
/-- a target takes a datum -/
theorem gT_ok {K : PySem.W.Frag} {S H : Hp} {t : Tg} {d : PyData} {v : V} {σ : St} {ρ ρ' : Env} {Q : St → Hp → Prop} (hS : In S H) (h : ShR K S σ ρ) (hl : ∀ i ∈ t.all, i < σ.length) (hr : Rp K S d v) (e : bindT t d ρ = some ρ')
    (hQ : ∀ σ', ShR K S σ' ρ' → (∃ vs, σ' = setAll t.all vs σ) → Q σ' H) : gT K t v σ H Q := by
  cases t with
  | one i =>
    simp only [bindT, Option.some.injEq] at e
    subst e
    exact hQ _ (shr_set h (hl i (by simp [Tg.all])) hr) ⟨[v], rfl⟩
  | many is =>
    cases d <;> simp only [bindT] at e <;> try cases e
    rename_i ds
    simp only [Rp] at hr
    obtain ⟨a, vs, rfl, ha, ra⟩ := hr
    exact ⟨a, vs, rfl, SqT.sub hS.sub ha, by rw [ra.length, bindMany_length e], hQ _ (shr_many h hl ra e) ⟨vs, rfl⟩⟩
end
end DL
namespace DL
open PySem PySem.Spec PyProof.Rows L2
variable [Tabs]
section
variable {K : PySem.W.Frag} {S : Hp}
theorem rev_get {α : Type} {xs : List α} {i : Nat} (h : i < xs.length) : xs.reverse[i]? = xs[xs.length - 1 - i]? := by
  rw [List.getElem?_reverse h]
theorem yl_revT {a : Addr} {vs : List V} {ds : List PyData} (ha : SqT K S a vs) (hr : RpA K S ds vs) : Yl K (RT.ItvT K a vs.length) S ds.reverse where
  go := fun H i hS hi => by
    have hl := hr.length
    rw [List.length_reverse] at hi
    exact ⟨by omega, vs, vs[vs.length - 1 - i]'(by omega), SqT.sub hS ha, List.getElem?_eq_getElem _⟩
  stop := fun H hS => by
    show vs.length ≤ _
    rw [List.length_reverse, hr.length]
    exact Nat.le_refl _
  yld := fun H S1 i x H' d h1 h2 hd ⟨e, hx⟩ => by
    subst e
    have hi : i < ds.length := by
      have := (List.getElem?_eq_some_iff.mp hd).1
      rwa [List.length_reverse] at this
    rw [rev_get hi] at hd
    obtain ⟨v, hv, hrv⟩ := hr.get hd
    have q := hx vs (SqT.sub (h1.trans h2.sub) ha)
    rw [hr.length, hv] at q
    cases q
    exact ⟨S1, Grow.refl h2, Rp.sub h1 d _ hrv⟩
theorem yl_enum {a : Addr} {vs : List V} {ds : List PyData} (ha : S a = some (.lst vs)) (hr : RpA K S ds vs) : Yl K (Ite K a) S (enumFrom 0 ds) := by
  have len : ∀ (ds : List PyData) (k : Nat), (enumFrom k ds).length = ds.length := fun ds => by
    induction ds with
    | nil => intro k; rfl
    | cons d ds ih => intro k; simp only [enumFrom, List.length_cons, ih]
  have get : ∀ (ds : List PyData) (k i : Nat), (enumFrom k ds)[i]? = (ds[i]?).map fun d => .tuple [.int ((k + i : Nat) : Int), d] := fun ds => by
    induction ds with
    | nil => intro k i; simp [enumFrom]
    | cons d ds ih =>
      intro k i
      cases i with
      | zero => simp [enumFrom]
      | succ i =>
        simp only [enumFrom, List.getElem?_cons_succ, ih]
        rw [show k + 1 + i = k + (i + 1) by omega]
  exact {
    go := fun H i hS hi => by
      have hl := hr.length
      rw [len] at hi
      exact ⟨vs, vs[i]'(by omega), SqL.ofS (hS _ _ ha), List.getElem?_eq_getElem _⟩
    stop := fun H hS => ⟨vs, SqL.ofS (hS _ _ ha), by rw [hr.length, len]; exact Nat.le_refl _⟩
    yld := fun H S1 i x H' d h1 h2 hd ⟨T, u, e1, n, e2, hx⟩ => by
      rw [get] at hd
      cases q : ds[i]? with
      | none => rw [q] at hd; cases hd
      | some d' =>
        rw [q] at hd
        cases hd
        obtain ⟨v, hv, hrv⟩ := hr.get q
        have z := hx vs (SqL.ofS ((h1.trans h2.sub) _ _ ha))
        rw [hv] at z
        cases z
        subst e1 e2
        refine ⟨_, Grow.laid h2 n _, Rp.tup upd_same ?_⟩
        rw [Nat.zero_add]
        exact RpA.cons (rpI _) (RpA.cons (Rp.sub (sub_upd (h2.no n)) _ _ (Rp.sub h1 _ _ hrv)) RpA.nil) }
theorem yl_revL {a : Addr} {vs : List V} {ds : List PyData} (ha : S a = some (.lst vs)) (hr : RpA K S ds vs) : Yl K (Itv K a vs.length) S ds.reverse where
  go := fun H i hS hi => by
    have hl := hr.length
    rw [List.length_reverse] at hi
    exact ⟨by omega, vs, vs[vs.length - 1 - i]'(by omega), SqL.ofS (hS _ _ ha), List.getElem?_eq_getElem _⟩
  stop := fun H hS => by
    show vs.length ≤ _
    rw [List.length_reverse, hr.length]
    exact Nat.le_refl _
  yld := fun H S1 i x H' d h1 h2 hd ⟨e, hx⟩ => by
    subst e
    have hi : i < ds.length := by
      have := (List.getElem?_eq_some_iff.mp hd).1
      rwa [List.length_reverse] at this
    rw [rev_get hi] at hd
    obtain ⟨v, hv, hrv⟩ := hr.get hd
    have q := hx vs (SqL.ofS ((h1.trans h2.sub) _ _ ha))
    rw [hr.length, hv] at q
    cases q
    exact ⟨S1, Grow.refl h2, Rp.sub h1 d _ hrv⟩
omit [Tabs] in
theorem zip_len : ∀ (ds es : List PyData), (zipD ds es).length = min ds.length es.length
  | [], es => by simp [zipD]
  | _ :: _, [] => by simp [zipD]
  | d :: ds, e :: es => by simp only [zipD, List.length_cons, zip_len ds es]; omega
omit [Tabs] in
theorem zip_get : ∀ (ds es : List PyData) (i : Nat) (p : PyData), (zipD ds es)[i]? = some p → ∃ d e, ds[i]? = some d ∧ es[i]? = some e ∧ p = .tuple [d, e]
  | [], es, i, p, h => by simp [zipD] at h
  | _ :: _, [], i, p, h => by simp [zipD] at h
  | d :: ds, e :: es, 0, p, h => by
    simp only [zipD, List.getElem?_cons_zero, Option.some.injEq] at h
    exact ⟨d, e, rfl, rfl, h.symm⟩
  | d :: ds, e :: es, i + 1, p, h => by
    simp only [zipD, List.getElem?_cons_succ] at h
    exact zip_get ds es i p h
theorem yl_zipT {a b : Addr} {vs us : List V} {ds es : List PyData} (ha : SqT K S a vs) (hr : RpA K S ds vs) (hb : SqT K S b us) (hq : RpA K S es us) : Yl K (RZ.ItzT K a b) S (zipD ds es) where
  go := fun H i hS hi => by
    rw [zip_len] at hi
    have l1 := hr.length
    have l2 := hq.length
    exact ⟨vs, us, vs[i]'(by omega), us[i]'(by omega), SqT.sub hS ha, SqT.sub hS hb, List.getElem?_eq_getElem _, List.getElem?_eq_getElem _⟩
  stop := fun H hS => ⟨vs, us, SqT.sub hS ha, SqT.sub hS hb, by rw [zip_len, hr.length, hq.length]; omega⟩
  yld := fun H S1 i x H' p h1 h2 hp ⟨T, v, u, e1, n, e2, hx, hy⟩ => by
    obtain ⟨d, e, q1, q2, rfl⟩ := zip_get _ _ _ _ hp
    obtain ⟨v', hv, rv⟩ := hr.get q1
    obtain ⟨u', hu, ru⟩ := hq.get q2
    have z1 := hx vs (SqT.sub (h1.trans h2.sub) ha)
    have z2 := hy us (SqT.sub (h1.trans h2.sub) hb)
    rw [hv] at z1
    rw [hu] at z2
    cases z1
    cases z2
    subst e1 e2
    exact ⟨_, Grow.laid h2 n _, Rp.tup upd_same (RpA.cons (Rp.sub (sub_upd (h2.no n)) _ _ (Rp.sub h1 _ _ rv)) (RpA.cons (Rp.sub (sub_upd (h2.no n)) _ _ (Rp.sub h1 _ _ ru)) RpA.nil))⟩
theorem yl_zipL {a b : Addr} {vs us : List V} {ds es : List PyData} (ha : S a = some (.lst vs)) (hr : RpA K S ds vs) (hb : S b = some (.lst us)) (hq : RpA K S es us) : Yl K (Itz K a b) S (zipD ds es) where
  go := fun H i hS hi => by
    rw [zip_len] at hi
    have l1 := hr.length
    have l2 := hq.length
    exact ⟨vs, us, vs[i]'(by omega), us[i]'(by omega), SqL.ofS (hS _ _ ha), SqL.ofS (hS _ _ hb), List.getElem?_eq_getElem _, List.getElem?_eq_getElem _⟩
  stop := fun H hS => ⟨vs, us, SqL.ofS (hS _ _ ha), SqL.ofS (hS _ _ hb), by rw [zip_len, hr.length, hq.length]; omega⟩
  yld := fun H S1 i x H' p h1 h2 hp ⟨T, v, u, e1, n, e2, hx, hy⟩ => by
    obtain ⟨d, e, q1, q2, rfl⟩ := zip_get _ _ _ _ hp
    obtain ⟨v', hv, rv⟩ := hr.get q1
    obtain ⟨u', hu, ru⟩ := hq.get q2
    have z1 := hx vs (SqL.ofS ((h1.trans h2.sub) _ _ ha))
    have z2 := hy us (SqL.ofS ((h1.trans h2.sub) _ _ hb))
    rw [hv] at z1
    rw [hu] at z2
    cases z1
    cases z2
    subst e1 e2
    exact ⟨_, Grow.laid h2 n _, Rp.tup upd_same (RpA.cons (Rp.sub (sub_upd (h2.no n)) _ _ (Rp.sub h1 _ _ rv)) (RpA.cons (Rp.sub (sub_upd (h2.no n)) _ _ (Rp.sub h1 _ _ ru)) RpA.nil))⟩
end
section
variable {X : Cx} {cl : Nat → Value} {W : WX} {e a b tg : Expr} {es elts : List Expr} {f fa fb : Env → R PyData} {pos tpos : Pos} {kk : Nat}
theorem sndI_rev {p : Pos} (hg : Gl X "reversed") (hm : X.mg "reversed" = none) (he : Snd X cl W e f) (hs : notStar e = true) : SndI X cl W tg (.Call (.Name "reversed" p) [e] [] pos) fun ρ => (f ρ).bind fun x => (seqOf x).bind fun xs => .ok (.list xs.reverse) := by
  refine pi_imp (RT.pi_revA hg hm he.pe (star_cons hs)) fun σ H Q ⟨S, ρ, hS, hr, h⟩ => ?_
  simp only [post_bind] at h
  refine td_one hS hr h fun d v H' S' p g q => ?_
  cases d <;> simp only [seqOf] at p <;> try exact p.elim
  · simp only [Rp] at q
    obtain ⟨l, vs, rfl, hl, rl⟩ := q
    exact ⟨l, vs, rfl, .inl ⟨SqL.ofS (g.in_ _ _ hl), p _ _ _ g (yl_revL hl rl)⟩⟩
  · simp only [Rp] at q
    obtain ⟨l, vs, rfl, hl, rl⟩ := q
    exact ⟨l, vs, rfl, .inr ⟨SqT.sub g.in_.sub hl, p _ _ _ g (yl_revT hl rl)⟩⟩
theorem sndI_zip {p : Pos} (hg : Gl X "zip") (hm : X.mg "zip" = none) (ha : Snd X cl W a fa) (hb : Snd X cl W b fb) (hs : notStar a = true) (hs2 : notStar b = true) : SndI X cl W (.Tuple elts kk tpos) (.Call (.Name "zip" p) [a, b] [] pos) fun ρ => (fa ρ).bind fun x => (fb ρ).bind (zipDD x) := by
  refine pi_imp (RZ.pi_zipA hg hm (pa_cons ha.pe (pa_cons hb.pe pa_nil (star_cons hs2)) (star_cons hs)) (star_cons hs) (back_any (by simp [hs2]))) fun σ H Q ⟨S, ρ, hS, hr, h⟩ => ?_
  simp only [post_bind] at h
  refine td_one hS hr h fun x vx H1 S1 p1 g1 q1 => td_one g1.in_ (hr.sub g1.s) (post_up p1 g1.h fun _ z => z) fun y vy H' S' p g q2 => ?_
  unfold zipDD at p
  split at p
  · simp only [Rp] at q1 q2
    obtain ⟨l, vs, rfl, hl, rl⟩ := q1
    obtain ⟨m, us, rfl, hm', rm⟩ := q2
    have hl' := g.s _ _ hl
    exact ⟨l, m, vs, us, rfl, .inl ⟨SqL.ofS (g.in_ _ _ hl'), SqL.ofS (g.in_ _ _ hm'), p _ _ _ (g1.trans g) (yl_zipL hl' (rl.sub g.s) hm' rm)⟩⟩
  · simp only [Rp] at q1 q2
    obtain ⟨l, vs, rfl, hl, rl⟩ := q1
    obtain ⟨m, us, rfl, hm', rm⟩ := q2
    have hl' := SqT.sub g.s hl
    exact ⟨l, m, vs, us, rfl, .inr ⟨SqT.sub g.in_.sub hl', SqT.sub g.in_.sub hm', p _ _ _ (g1.trans g) (yl_zipT hl' (rl.sub g.s) hm' rm)⟩⟩
  · exact p.elim
/-- enumerate of a list -/
theorem sndI_enumL {p : Pos} (hg : Gl X "enumerate") (hm : X.mg "enumerate" = none) (ha : Snd X cl W a fa) (hs : notStar a = true) : SndI X cl W (.Tuple elts kk tpos) (.Call (.Name "enumerate" p) [a] [] pos) fun ρ => (fa ρ).bind fun x => (lstOf x).bind fun xs => .ok (.list (enumFrom 0 xs)) := by
  refine pi_imp (pi_enum hg hm (pa_cons ha.pe pa_nil (star_cons hs)) (by rw [star_cons hs]; rfl)) fun σ H Q ⟨S, ρ, hS, hr, h⟩ => ?_
  simp only [post_bind] at h
  refine td_one hS hr h fun d v H' S' p g q => ?_
  cases d <;> simp only [lstOf] at p <;> try exact p.elim
  simp only [Rp] at q
  obtain ⟨l, vs, rfl, hl, rl⟩ := q
  exact ⟨l, vs, rfl, SqL.ofS (g.in_ _ _ hl), p _ _ _ g (yl_enum hl rl)⟩
end
end DL
namespace DL
open PySem PySem.Spec PyProof.Rows L2
open PySem.AutoSeq1 (wpAny_loadPart')
/-! ### enumerate of a list, of a tuple -/
theorem meets_enumT (l : Addr) (items : Array Value) (n : Nat) (dct : Option Addr) (sl : Array (Option Value)) :
    Meets (Builtin.«enumerate.__new__» ⟨[.type "enumerate", .ref l], []⟩) (fun _ R s => s.heap.get? l = some { cls := .type "tuple", dict := dct, data := .seq items n, slots := sl } ∧
      R (.ok (.ret (.ref (s.heap.push { cls := .type "tuple_iterator", data := .fields #[.ref l, .int 0 0] }).objs.size)))
        { s with heap := (s.heap.push { cls := .type "tuple_iterator", data := .fields #[.ref l, .int 0 0] }).push { cls := .type "enumerate", data := .fields #[.none, .bool false, .ref s.heap.objs.size, rawInt 0, .none, .none] } }) :=
  .of_wp fun prog w A R s h => by
    obtain ⟨hp, g, d, tk, os⟩ := s; obtain ⟨hl, h⟩ := h
    have hsub := sub_enumerate
    have hL : Heap.IsTuple (Shared.heap ⟨hp, g, d, tk, os⟩) l items := ⟨_, hl, rfl, n, rfl⟩
    wp_walk using wpAny_loadPart' hl
    refine wpAny_stack_any fun st => wpAny_pure ?_
    split
    · rename_i c _ _ _ _ _
      cases (c == Value.type "enumerate")
      · wp_walk using wpAny_loadPart' hl, wpAny_pyIter_tuple hL
        exact ⟨_, rfl, h⟩
      · wp_walk using wpAny_loadPart' hl, wpAny_pyIter_tuple hL
        exact ⟨_, rfl, h⟩
    · wp_walk using wpAny_loadPart' hl, wpAny_pyIter_tuple hL
      exact ⟨_, rfl, h⟩
theorem call_enumT {prog : Program} {w : World} {A : Around} {E : Value → Shared → Prop} {s : Shared} {l : Addr} {items : Array Value} {Q : Value → Shared → Prop} (hL : s.heap.IsTuple l items)
    (h : ∀ h', IsEnum h' (s.heap.objs.size + 1) s.heap.objs.size 0 .none → h'.IsTupleIter s.heap.objs.size l 0 → h'.objs.size = s.heap.objs.size + 2 →
      (∀ b o, s.heap.get? b = some o → h'.get? b = some o) → Q (.ref (s.heap.objs.size + 1)) { s with heap := h' }) :
    wpAny (model prog w) A (call (.type "enumerate") [.ref l]) Q E s := by
  obtain ⟨⟨c, dct, dt, sl⟩, hl, hc, n, hd⟩ := hL
  replace hc : c = .type "tuple" := hc
  replace hd : dt = .seq items n := hd
  subst hc hd
  refine callType_new F.called_enumerate (by decide) (F.typeCall_enumerate_1 _) (F.newCall_enumerate_1 _) (fun obj => F.args_object_init_2 obj _) F.entry_enumerate_new
    (meets_enumT l items n dct sl) ⟨hl, ?_⟩
  have hz : (s.heap.push { cls := .type "tuple_iterator", data := .fields #[.ref l, .int 0 0] }).objs.size = s.heap.objs.size + 1 := Heap.size_push ..
  show _ ∧ _
  rw [hz]
  have he : IsEnum ((s.heap.push { cls := .type "tuple_iterator", data := .fields #[.ref l, .int 0 0] }).push
      { cls := .type "enumerate", data := .fields #[.none, .bool false, .ref s.heap.objs.size, rawInt 0, .none, .none] }) (s.heap.objs.size + 1) s.heap.objs.size 0 .none := by
    have := Heap.get?_push_size (s.heap.push { cls := .type "tuple_iterator", data := .fields #[.ref l, .int 0 0] })
      (o := { cls := .type "enumerate", data := .fields #[.none, .bool false, .ref s.heap.objs.size, rawInt 0, .none, .none] }) rfl
    rw [hz] at this; exact this
  refine ⟨⟨_, he, rfl⟩, h _ he ⟨_, Heap.get?_push_of_some _ (Heap.get?_push_size _ rfl), rfl, rfl⟩ (by rw [Heap.size_push, hz]) fun b o x => Heap.get?_push_of_some _ (Heap.get?_push_of_some _ x)⟩
/-- the tuple at a, each item in a new pair -/
def IteT (K : PySem.W.Frag) (a : Addr) : It :=
  ⟨fun i H => ∃ (xs : List V) (x : V), SqT K H a xs ∧ xs[i]? = some x, fun i H v H' => ∃ T x, v = .ref T ∧ H T = none ∧ H' = upd H T (.tup [.int (i : Nat), x]) ∧ ∀ xs, SqT K H a xs → xs[i]? = some x, fun i H => ∃ xs : List V, SqT K H a xs ∧ xs.length = i⟩
theorem turn_enumT {P : Program} {w : World} {K : PySem.W.Frag} {elts : List Expr} {kk : Nat} {tpos : Pos} (a e it : Addr) :
    Turn P w K (.Tuple elts kk tpos) (IteT K a) [e, it] e (fun i h => (∃ old, IsEnum h e it ((i : Nat) : Int) old) ∧ h.IsTupleIter it a i ∧ e ≠ it) where
  mem := by simp
  obj := fun i h st b hb => by
    obtain ⟨⟨old, he⟩, ⟨o, ho, hc, hd⟩, _⟩ := st
    have e' : b = e ∨ b = it := by simpa using hb
    rcases e' with z | z
    · rw [z]; exact ⟨_, he, fun v q => nomatch q⟩
    · rw [z]; exact ⟨o, ho, fun v q => by rw [hd] at q; cases q⟩
  keep := fun i h h' st k => let ⟨⟨old, he⟩, hi, hne⟩ := st; ⟨⟨old, k e (by simp) _ he⟩, hi.at fun o q => k it (by simp) o q, hne⟩
  item := by
    intro X hP hw hK hc i pins s σ H E I hf st hg
    subst hP hw hK
    obtain ⟨⟨old, he⟩, hit, hne⟩ := st
    obtain ⟨xs, x, hq, hx⟩ := hg
    obtain ⟨its, rv, p, hz⟩ := I.tuple hq
    have p : s.heap.IsTuple a its.toArray := p
    obtain ⟨u, hu, ru⟩ := rv.get hx
    have hel : e < s.heap.objs.size := Heap.lt_size he
    have hil : it < s.heap.objs.size := by obtain ⟨_, q, _⟩ := hit; exact Heap.lt_size q
    have hai : a ≠ it := fun z => by
      obtain ⟨o1, q1, c1, _⟩ := p
      obtain ⟨o2, q2, c2, _⟩ := hit
      rw [z, q2] at q1
      cases q1
      rw [c2] at c1
      exact absurd c1 (by decide)
    have hea : e ≠ a := fun z => by
      obtain ⟨o1, q1, c1, _⟩ := p
      have he : s.heap.get? e = _ := he
      rw [← z, he] at q1
      cases q1
      exact Value.noConfusion c1 (fun z => absurd z (by decide))
    have hi : i < its.toArray.size := by
      have := (List.getElem?_eq_some_iff.mp hu).1
      simpa using this
    refine wpAny_pyNext_enum_itemD (Draws.tuple (A := X.A.in1) (I.ok.hd hc) it a hai its.toArray) he ⟨hit, p⟩ hi hne (by simp [hne, hea]) fun x' h' tk hx' ho hst' hT hsz hk => ?_
    have ex : x' = u := by
      have hx' : its.toArray[i]? = some x' := hx'
      rw [List.getElem?_toArray, hu] at hx'
      exact (Option.some.inj hx').symm
    subst ex
    obtain ⟨hit', _⟩ := hst'
    refine ⟨_, rfl, wpAny_letOwnedTupleGo_enum (s := { s with heap := h', toks := tk + 1 }) ho fun h'' he' sb => ?_⟩
    have hT2 : h''.get? s.heap.objs.size = some { cls := .type "tuple", data := .seq #[.int i tk, x'] } := (sb.2 _ (Nat.ne_of_gt hel)).trans hT
    have new : ObjOk X.prog X.w (upd H s.heap.objs.size (.tup [.int (i : Nat), x])) h'' s.heap.objs.size (.tup [.int (i : Nat), x]) :=
      ⟨by show 2 ≤ sizeLine; decide, [.int i tk, x'], .cons ⟨_, rfl⟩ (.cons ru .nil), ⟨_, hT2, rfl, _, rfl⟩⟩
    have I1 : Inv X pins σ (upd H s.heap.objs.size (.tup [.int (i : Nat), x])) { s with heap := h'', toks := tk + 1 } :=
      I.turnedNew (ch := [e, it]) (fun b ob hb q => (sb.2 b (fun z => hb (by simp [z]))).trans (hk b ob (fun z => hb (by simp [z])) (fun z => hb (by simp [z])) q)) hf (Nat.le_refl _) new
    refine ⟨.ref s.heap.objs.size, _, I1, rfl, ⟨_, x, rfl, I.hok.fresh (Nat.le_refl _), rfl, fun ys hy => by rw [I.tuple_inj hy hq]; exact hx⟩, ⟨⟨x', ?_⟩, hit'.at fun o q => (sb.2 it (Ne.symm hne)).trans q, hne⟩, fun b hb => ?_⟩
    · have e1 : ((i + 1 : Nat) : Int) = (i : Int) + 1 := by omega
      rw [e1]; exact he'
    · have hb' : b < s.heap.objs.size := by
        have e' : b = e ∨ b = it := by simpa using hb
        rcases e' with z | z
        · rw [z]; exact hel
        · rw [z]; exact hil
      rw [upd_ne (Nat.ne_of_lt hb')]
      exact (hf b hb).1
  done := by
    intro X hP hw hK hc i pins s σ H E I hf st hg
    subst hP hw hK
    obtain ⟨⟨old, he⟩, hit, hne⟩ := st
    obtain ⟨xs, hq, hx⟩ := hg
    obtain ⟨its, rv, p, hz⟩ := I.tuple hq
    have p : s.heap.IsTuple a its.toArray := p
    obtain ⟨f0, f1, f2, f3, f4, f5⟩ := hf it (by simp)
    have hl := rv.length
    have hai : a ≠ it := fun z => by
      obtain ⟨o1, q1, c1, _⟩ := p
      obtain ⟨o2, q2, c2, _⟩ := hit
      rw [z, q2] at q1
      cases q1
      rw [c2] at c1
      exact absurd c1 (by decide)
    have ei : i = its.toArray.size := by simp; omega
    refine wpAny_pyNext_enum_endD (Draws.tuple (A := X.A.in1) (I.ok.hd hc) it a hai its.toArray) he ⟨by rw [← ei]; exact hit, p⟩ fun h' eb => ⟨rfl, I.turned (t' := s.toks) (fun b o hb q => eb b o hb q) f0 f1 f3 f4 f5⟩
  self := fun A i s Q E st h => let ⟨⟨_, he⟩, _⟩ := st; wpAny_pyIter_enum he h
def iEnumA (K : PySem.W.Frag) (ta : TA) : TI := fun σ H R => ta σ H fun vs H1 => ∃ a xs, vs = [.ref a] ∧ ((SqL K H1 a xs ∧ R (Ite K a) H1) ∨ (SqT K H1 a xs ∧ R (IteT K a) H1))
theorem pi_enumA {X : Cx} {e : Expr} {ta : TA} {p pos tpos : Pos} {elts : List Expr} {kk : Nat} (hg : Gl X "enumerate") (hm : X.mg "enumerate" = none) (ha : PA X [e] ta) (hs : starEach [e] X.env = [(false, eval e X.env)] := by rfl) :
    PI X (.Tuple elts kk tpos) (.Call (.Name "enumerate" p) [e] [] pos) (iEnumA X.K ta) := by
  refine ⟨fun pins s σ H R I h => ?_⟩
  refine Call_ (ld_blt I hg hm boot_enumerate (PyProof.Rows.callWith_type1 (thn (ha.run pos pins s σ H _ I h) fun us s1 ⟨vs, H1, I1, r1, q1⟩ => ?_) hs rfl))
  obtain ⟨a, xs, ex, q⟩ := q1
  subst ex
  cases r1 with
  | cons r rr =>
    cases rr
    cases r
    have fresh : ∀ b, b ∈ [s1.heap.objs.size + 1, s1.heap.objs.size] → FpOk X pins H1 b := fun b hb => by
      have e' : b = s1.heap.objs.size + 1 ∨ b = s1.heap.objs.size := by simpa using hb
      have hle : s1.heap.objs.size ≤ b := by
        rcases e' with z | z
        · rw [z]; exact Nat.le_add_right _ _
        · rw [z]; exact Nat.le_refl _
      exact I1.fpOk hle (I1.hok.fresh hle)
    rcases q with ⟨hq, q⟩ | ⟨hq, q⟩
    · obtain ⟨its, rv, p', hz⟩ := I1.list hq
      refine call_enumerate_list p'.isList fun h' he hit hsz hk => wpAny_pyIter_enum he ?_
      have I2 : Inv X pins σ H1 { s1 with heap := h' } := I1.kept (t' := s1.toks) hk
      exact ⟨s1.heap.objs.size + 1, [s1.heap.objs.size + 1, s1.heap.objs.size], _, _, H1, rfl, I2, turn_enum a (s1.heap.objs.size + 1) s1.heap.objs.size, ⟨⟨.none, he⟩, hit, Nat.succ_ne_self _⟩, fresh, q⟩
    · obtain ⟨its, rv, p', hz⟩ := I1.tuple hq
      refine call_enumT (show s1.heap.IsTuple a its.toArray from p') fun h' he hit hsz hk => wpAny_pyIter_enum he ?_
      have I2 : Inv X pins σ H1 { s1 with heap := h' } := I1.kept (t' := s1.toks) hk
      exact ⟨s1.heap.objs.size + 1, [s1.heap.objs.size + 1, s1.heap.objs.size], _, _, H1, rfl, I2, turn_enumT a (s1.heap.objs.size + 1) s1.heap.objs.size, ⟨⟨.none, he⟩, hit, Nat.succ_ne_self _⟩, fresh, q⟩
section
variable [Tabs]
variable {K : PySem.W.Frag} {S : Hp}
theorem enum_len : ∀ (ds : List PyData) (k : Nat), (enumFrom k ds).length = ds.length := fun ds => by
  induction ds with
  | nil => intro k; rfl
  | cons d ds ih => intro k; simp only [enumFrom, List.length_cons, ih]
theorem enum_get : ∀ (ds : List PyData) (k i : Nat), (enumFrom k ds)[i]? = (ds[i]?).map fun d => .tuple [.int ((k + i : Nat) : Int), d] := fun ds => by
  induction ds with
  | nil => intro k i; simp [enumFrom]
  | cons d ds ih =>
    intro k i
    cases i with
    | zero => simp [enumFrom]
    | succ i =>
      simp only [enumFrom, List.getElem?_cons_succ, ih]
      rw [show k + 1 + i = k + (i + 1) by omega]
theorem yl_enumT {a : Addr} {vs : List V} {ds : List PyData} (ha : SqT K S a vs) (hr : RpA K S ds vs) : Yl K (IteT K a) S (enumFrom 0 ds) where
  go := fun H i hS hi => by
    have hl := hr.length
    rw [enum_len] at hi
    exact ⟨vs, vs[i]'(by omega), SqT.sub hS ha, List.getElem?_eq_getElem _⟩
  stop := fun H hS => ⟨vs, SqT.sub hS ha, by rw [hr.length, enum_len]⟩
  yld := fun H S1 i x H' d h1 h2 hd ⟨T, u, e1, n, e2, hx⟩ => by
    rw [enum_get] at hd
    cases q : ds[i]? with
    | none => rw [q] at hd; cases hd
    | some d' =>
      rw [q] at hd
      cases hd
      obtain ⟨v, hv, hrv⟩ := hr.get q
      have z := hx vs (SqT.sub (h1.trans h2.sub) ha)
      rw [hv] at z
      cases z
      subst e1 e2
      refine ⟨_, Grow.laid h2 n _, Rp.tup upd_same ?_⟩
      rw [Nat.zero_add]
      exact RpA.cons (rpI _) (RpA.cons (Rp.sub (sub_upd (h2.no n)) _ _ (Rp.sub h1 _ _ hrv)) RpA.nil)
variable {X : Cx} {cl : Nat → Value} {W : WX} {a : Expr} {fa : Env → R PyData} {elts : List Expr} {kk : Nat} {pos tpos : Pos}
/-- enumerate of a list, of a tuple -/
theorem sndI_enum {p : Pos} (hg : Gl X "enumerate") (hm : X.mg "enumerate" = none) (ha : Snd X cl W a fa) (hs : notStar a = true) : SndI X cl W (.Tuple elts kk tpos) (.Call (.Name "enumerate" p) [a] [] pos) fun ρ => (fa ρ).bind fun x => (seqOf x).bind fun xs => .ok (.list (enumFrom 0 xs)) := by
  refine pi_imp (pi_enumA hg hm (pa_cons ha.pe pa_nil (star_cons hs)) (by rw [star_cons hs]; rfl)) fun σ H Q ⟨S, ρ, hS, hr, h⟩ => ?_
  simp only [post_bind] at h
  refine td_one hS hr h fun d v H' S' p g q => ?_
  cases d <;> simp only [seqOf] at p <;> try exact p.elim
  · simp only [Rp] at q
    obtain ⟨l, vs, rfl, hl, rl⟩ := q
    exact ⟨l, vs, rfl, .inl ⟨SqL.ofS (g.in_ _ _ hl), p _ _ _ g (yl_enum hl rl)⟩⟩
  · simp only [Rp] at q
    obtain ⟨l, vs, rfl, hl, rl⟩ := q
    exact ⟨l, vs, rfl, .inr ⟨SqT.sub g.in_.sub hl, p _ _ _ g (yl_enumT hl rl)⟩⟩
end
end DL
namespace DL
open PySem PySem.Spec PyProof.Rows L2
variable [Tabs]

omit [Tabs] in
theorem wipeE_get : ∀ {vs : List Nat} {ρ : Env} {i : Nat} {s : Sl}, (wipeE ρ vs)[i]? = some s → s.val ≠ none → i ∉ vs ∧ ρ[i]? = some s
  | [], ρ, i, s, h, _ => ⟨by simp, h⟩
  | v :: vs, ρ, i, s, h, hs => by
    unfold wipeE at h
    by_cases c : v = i
    · subst c
      by_cases hl : v < (wipeE ρ vs).length
      · rw [List.getElem?_set_self hl] at h
        cases h
        exact absurd rfl hs
      · rw [List.getElem?_eq_none (by rw [List.length_set]; omega)] at h
        cases h
    · rw [List.getElem?_set_ne c] at h
      obtain ⟨h1, h2⟩ := wipeE_get h hs
      refine ⟨fun m => ?_, h2⟩
      rcases List.mem_cons.mp m with e | m
      · exact c e.symm
      · exact h1 m
omit [Tabs] in
theorem wipe_outD {σ : St} {i : Nat} : ∀ {vs : List Nat}, i ∉ vs → (wipe σ vs)[i]? = σ[i]?
  | [], _ => rfl
  | v :: vs, h => by
    unfold wipe
    rw [List.getElem?_set_ne (fun e => h (by simp [e])), wipe_outD fun m => h (List.mem_cons_of_mem _ m)]
theorem shr_wipe {K : PySem.W.Frag} {S : Hp} {σ : St} {ρ : Env} (h : ShR K S σ ρ) (vs : List Nat) : ShR K S (wipe σ vs) (wipeE ρ vs) := by
  intro i s d e1 e2
  obtain ⟨h1, h2⟩ := wipeE_get e1 (by rw [e2]; simp)
  obtain ⟨v, q1, q2⟩ := h i s d h2 e2
  exact ⟨v, by rw [wipe_outD h1]; exact q1, q2⟩
omit [Tabs] in
theorem wipe_set {σ : St} {i : Nat} {x : Option V} : ∀ {vs : List Nat}, i ∈ vs → wipe (σ.set i x) vs = wipe σ vs
  | v :: vs, h => by
    unfold wipe
    by_cases c : i ∈ vs
    · rw [wipe_set c]
    · have e : i = v := by
        rcases List.mem_cons.mp h with e | m
        · exact e
        · exact absurd m c
      subst e
      have key : ∀ {us : List Nat}, i ∉ us → (wipe (σ.set i x) us) = (wipe σ us).set i x := by
        intro us
        induction us with
        | nil => intro _; rfl
        | cons u us ih =>
          intro hu
          unfold wipe
          rw [ih fun m => hu (List.mem_cons_of_mem _ m)]
          rw [List.set_comm _ _ (fun e => hu (by simp [e]))]
      rw [key c]
      simp
omit [Tabs] in
theorem wipe_setAll : ∀ {is : List Nat} {xs : List V} {σ : St} {vs : List Nat}, (∀ i ∈ is, i ∈ vs) → wipe (setAll is xs σ) vs = wipe σ vs
  | [], _, _, _, _ => by simp [setAll]
  | _ :: _, [], _, _, _ => by simp [setAll]
  | i :: is, x :: xs, σ, vs, h => by
    simp only [setAll]
    rw [wipe_setAll fun j hj => h j (List.mem_cons_of_mem _ hj), wipe_set (h i List.mem_cons_self)]

section
variable {tg : Tg} {fc fe : Env → R PyData} {ρ : Env}
omit [Tabs] in
theorem lcGo_nil {ys : List PyData} (h : lcGo tg fc fe ρ [] = .ok ys) : ys = [] := by
  simp only [lcGo, R.ok.injEq] at h
  exact h.symm
omit [Tabs] in
theorem lcGo_cons {d : PyData} {ds ys : List PyData} (h : lcGo tg fc fe ρ (d :: ds) = .ok ys) : ∃ ρ', bindT tg d ρ = some ρ' ∧
    (((fc ρ').bind truth = .ok true ∧ ∃ y ys', fe ρ' = .ok y ∧ lcGo tg fc fe ρ ds = .ok ys' ∧ ys = y :: ys') ∨ ((fc ρ').bind truth = .ok false ∧ lcGo tg fc fe ρ ds = .ok ys)) := by
  simp only [lcGo] at h
  cases e : bindT tg d ρ with
  | none => rw [e] at h; cases h
  | some ρ' =>
    rw [e] at h
    dsimp only at h
    refine ⟨ρ', rfl, ?_⟩
    cases e2 : (fc ρ').bind truth with
    | ok b =>
      rw [e2] at h
      cases b with
      | true =>
        dsimp only at h
        cases e3 : fe ρ' with
        | ok y =>
          rw [e3] at h
          dsimp only at h
          cases e4 : lcGo tg fc fe ρ ds with
          | ok ys' =>
            rw [e4] at h
            cases h
            exact .inl ⟨rfl, y, ys', rfl, rfl, rfl⟩
          | ex c => rw [e4] at h; cases h
          | bad => rw [e4] at h; cases h
        | ex c => rw [e3] at h; cases h
        | bad => rw [e3] at h; cases h
      | false => exact .inr ⟨rfl, h⟩
    | ex c => rw [e2] at h; cases h
    | bad => rw [e2] at h; cases h
end

/-- nothing is let out -/
abbrev noW : WX := fun _ _ _ _ => False
theorem pts_imp {X : Cx} {ifs : List Expr} {t t' : TT} (h : PTs X ifs t) (hi : ∀ σ H Q, t' σ H Q → t σ H Q) : PTs X ifs t' := ⟨fun pins s σ H Q I q => h.run pins s σ H Q I (hi σ H Q q)⟩
abbrev SndT (X : Cx) (cl : Nat → Value) (W : WX) (ifs : List Expr) (f : Env → R PyData) : Prop := PTs X ifs (tDT (wh X cl W) fun ρ => (f ρ).bind truth)
section
variable {X : Cx} {cl : Nat → Value} {W : WX} {e a b c : Expr} {es : List Expr} {f fa fb fc : Env → R PyData} {pos : Pos}
theorem sndT_nil : SndT X cl W [] fun _ => .ok (.bool true) := pts_imp pts_nil fun σ H Q ⟨S, ρ, hS, hr, h⟩ => h H S (Grow.refl hS)
theorem sndT_one (h : Snd X cl W a f) : SndT X cl W [a] f := pts_one h.pt

/-- the same of an expression that gives a new list: its place is new, and it does not stay yet -/
def tDF (w : Wh) (f : Env → R PyData) : TE := fun σ H Q => ∃ S ρ, In S H ∧ ShR w.K S σ ρ ∧
  post (f ρ) (fun d => match d with
    | .list ds => ∀ p vs H' S', Grow H S H' S' → H' p = some (.lst vs) → H p = none → S' p = none → RpA w.K S' ds vs → Q (.ref p) H'
    | _ => False) (w.E σ H)
theorem Grow.stay {H S H' S' : Hp} {p : Addr} {vs : List V} (g : Grow H S H' S') (e : H' p = some (.lst vs)) (n : H p = none) (s : S' p = none) : Grow H S H' (upd S' p (.lst vs)) := by
  refine ⟨g.h, g.s.trans (sub_upd s), ⟨fun b u q => ?_, fun b ps q => ?_, g.in_.tk⟩, fun b e1 q => ?_⟩
  · by_cases c : b = p
    · subst c; rw [upd_same] at q; cases q; exact e
    · rw [upd_ne c] at q; exact g.in_ _ _ q
  · by_cases c : b = p
    · subst c; rw [upd_same] at q; cases q
    · rw [upd_ne c] at q; exact g.in_.nt _ _ q
  · by_cases c : b = p
    · subst c; exact n
    · rw [upd_ne c] at q; exact g.new b e1 q
theorem td_tdf {w : Wh} {f : Env → R PyData} {σ : St} {H : Hp} {Q : VK} (hf : ∀ ρ d, f ρ = .ok d → ∃ ds, d = .list ds) (h : tD w f σ H Q) : tDF w f σ H Q := by
  obtain ⟨S, ρ, hS, hr, h⟩ := h
  refine ⟨S, ρ, hS, hr, post_monoR h (fun d e p => ?_) fun _ z => z⟩
  obtain ⟨ds, rfl⟩ := hf ρ d e
  exact fun q vs H' S' g e1 n s r => p _ _ _ (g.stay e1 n s) (Rp.lst upd_same (r.sub (sub_upd s)))
/-- the turns of a comprehension, over data -/
theorem lc_turns {t : Tg} {own : List Nat} {fc fe : Env → R PyData} {σ : St} {S H : Hp} {ρ : Env} {Q : VK} {g : TG} {tt : TT} {te : TE} {J : It} {H1 S1 : Hp} {xs ys : List PyData}
    (hg : g = gT X.K t) (htt : tt = tDT ⟨X.K, cl, noW⟩ fun ρ => (fc ρ).bind truth) (hte : te = tD ⟨X.K, cl, noW⟩ fe) (hσ : ∀ i ∈ own, i < σ.length) (hown : ∀ i ∈ t.all, i ∈ own)
    (hr : ShR X.K S σ ρ) (g1 : Grow H S H1 S1) (hJ : Yl X.K J S1 xs) (hz : xs.length ≤ big) (hgo : lcGo t fc fe (wipeE ρ own) xs = .ok ys) (hQ : ∀ p vs H' S', Grow H S H' S' → H' p = some (.lst vs) → H p = none → S' p = none → RpA X.K S' ys vs → Q (.ref p) H') :
    ∀ D, H1 D = none → ∃ Wv : Nat → Nat → Hp → Prop, (∃ m, Wv 0 m (upd H1 D (.lst []))) ∧ ∀ i m H, Wv i m H →
      (J.stop i H ∧ Q (.ref D) H) ∨ (J.go i H ∧ ∃ Nx : Hp → Prop, (∀ H', Nx H' → ∃ m', m' < m ∧ Wv (i + 1) m' H') ∧ ∀ x H', J.yld i H x H' → g x (wipe σ own) H' fun σ2 H2 => wipe σ2 own = wipe σ own ∧ tt σ2 H2 fun b H3 =>
        if b = true then te σ2 H3 fun y H4 => ∃ acc, H4 D = some (.lst acc) ∧ acc.length < sizeLine ∧ Nx (upd H4 D (.lst (acc ++ [y]))) else Nx H3) := by
  subst hg htt hte
  intro D hD
  -- the list at D, and a part that stays beside it
  have inv : ∃ Wv : Nat → Nat → Hp → Prop, Wv = fun i m Hc => i ≤ xs.length ∧ m = xs.length - i ∧ ∃ Sc accD accV ys', In Sc Hc ∧ Sub S1 Sc ∧ Up H1 Hc ∧ (∀ b, S1 b = none → Sc b ≠ none → H1 b = none) ∧ Hc D = some (.lst accV) ∧ Sc D = none ∧ RpA X.K Sc accD accV ∧ accD.length ≤ i ∧
      lcGo t fc fe (wipeE ρ own) (xs.drop i) = .ok ys' ∧ accD ++ ys' = ys := ⟨_, rfl⟩
  obtain ⟨Wv, hW⟩ := inv
  refine ⟨Wv, ⟨xs.length, ?_⟩, fun i m Hc hw => ?_⟩
  · rw [hW]
    refine ⟨Nat.zero_le _, rfl, S1, [], [], ys, g1.in_.lay hD, Sub.refl _, up_upd hD, fun b e n => absurd e n, upd_same, g1.in_.no hD, RpA.nil, Nat.le_refl _, hgo, rfl⟩
  · rw [hW] at hw
    obtain ⟨hi, rfl, Sc, accD, accV, ys', hSc, h1c, hHc, hnew, eD, sD, ra, hal, hrest, hsum⟩ := hw
    have hS1c : Sub S1 Hc := h1c.trans hSc.sub
    by_cases hlt : i < xs.length
    · refine .inr ⟨hJ.go Hc i hS1c hlt, Wv (i + 1) (xs.length - (i + 1)), fun H' w => ⟨_, by omega, w⟩, fun x H' hy => ?_⟩
      have hxi : xs[i]? = some xs[i] := List.getElem?_eq_getElem hlt
      rw [List.drop_eq_getElem_cons hlt] at hrest
      obtain ⟨S2, g2, hrx⟩ := hJ.yld Hc Sc i x H' xs[i] h1c hSc hxi hy
      obtain ⟨ρ', hb, hcase⟩ := lcGo_cons hrest
      have hrw : ShR X.K S2 (wipe σ own) (wipeE ρ own) := (((shr_wipe hr own).sub g1.s).sub h1c).sub g2.s
      refine gT_ok g2.in_ hrw (fun j hj => by rw [wipe_length]; exact hσ j (hown j hj)) hrx hb fun σ' hr' ⟨vs, eσ⟩ => ?_
      have wσ : wipe σ' own = wipe σ own := by
        rw [eσ, wipe_setAll hown]
        have : ∀ us : List Nat, (∀ u ∈ us, u ∈ own) → wipe (wipe σ us) own = wipe σ own := by
          intro us
          induction us with
          | nil => intro _; rfl
          | cons u us ih =>
            intro hu
            show wipe ((wipe σ us).set u none) own = _
            rw [wipe_set (hu u List.mem_cons_self), ih fun v hv => hu v (List.mem_cons_of_mem _ hv)]
        exact this own fun _ h => h
      refine ⟨wσ, ?_⟩
      -- D is a list of one's own: what is new is not it
      have keepD : ∀ {Ha Sa Hb Sb : Hp}, Grow Ha Sa Hb Sb → Ha D = some (.lst accV) → Sa D = none → Hb D = some (.lst accV) ∧ Sb D = none := fun {Ha Sa Hb Sb} gg e1 e2 => by
        refine ⟨gg.h.lst e1, ?_⟩
        cases q : Sb D with
        | none => rfl
        | some o =>
          have := gg.new D e2 (by rw [q]; simp)
          rw [e1] at this; cases this
      obtain ⟨eD2, sD2⟩ := keepD g2 eD sD
      rcases hcase with ⟨hc, y, ys2, hye, hr2, esum⟩ | ⟨hc, hr2⟩
      · refine ⟨S2, ρ', g2.in_, hr', ?_⟩
        show post ((fc ρ').bind truth) _ _
        rw [hc]
        intro H3 S3 g3
        show (if true = true then _ else _)
        rw [if_pos rfl]
        obtain ⟨eD3, sD3⟩ := keepD g3 eD2 sD2
        refine ⟨S3, ρ', g3.in_, hr'.sub g3.s, ?_⟩
        show post (fe ρ') _ _
        rw [hye]
        intro v H4 S4 g4 q4
        obtain ⟨eD4, sD4⟩ := keepD g4 eD3 sD3
        refine ⟨accV, eD4, ?_, ?_⟩
        · rw [ra.length]
          exact Nat.lt_of_le_of_lt (Nat.le_trans hal (Nat.le_of_lt hlt)) (Nat.lt_of_le_of_lt hz bigLt)
        · rw [hW]
          have gall : Grow Hc Sc H4 S4 := (g2.trans g3).trans g4
          refine ⟨hlt, rfl, S4, accD ++ [y], accV ++ [v], ys2, gall.in_.poke eD4 sD4, h1c.trans gall.s, (hHc.trans gall.h).pokeN hD eD4, fun b e n => ?_, upd_same, sD4, RpA.append (ra.sub gall.s) (RpA.cons q4 RpA.nil), ?_, hr2, ?_⟩
          · by_cases q : Sc b = none
            · exact hHc.no (gall.new b q n)
            · exact hnew b e q
          · rw [List.length_append, List.length_singleton]; omega
          · rw [← hsum, esum, List.append_assoc]; rfl
      · refine ⟨S2, ρ', g2.in_, hr', ?_⟩
        show post ((fc ρ').bind truth) _ _
        rw [hc]
        intro H3 S3 g3
        show (if false = true then _ else _)
        rw [if_neg Bool.false_ne_true, hW]
        obtain ⟨eD3, sD3⟩ := keepD g3 eD2 sD2
        have gall : Grow Hc Sc H3 S3 := g2.trans g3
        refine ⟨hlt, rfl, S3, accD, accV, ys', gall.in_, h1c.trans gall.s, hHc.trans gall.h, fun b e n => ?_, eD3, sD3, ra.sub gall.s, by omega, hr2, hsum⟩
        by_cases q : Sc b = none
        · exact hHc.no (gall.new b q n)
        · exact hnew b e q
    · have e : i = xs.length := by omega
      subst e
      rw [List.drop_length] at hrest
      have ey := lcGo_nil hrest
      subst ey
      rw [List.append_nil] at hsum
      subst hsum
      refine .inl ⟨hJ.stop Hc hS1c, hQ D accV Hc Sc ⟨g1.h.trans hHc, g1.s.trans h1c, hSc, fun b e n => ?_⟩ eD ?_ sD ra⟩
      · by_cases q : S1 b = none
        · exact g1.h.no (hnew b q n)
        · exact g1.new b e q
      · exact g1.h.no hD
theorem lc_read {wi : TI} {own : List Nat} {t : Tg} {fi fc fe : Env → R PyData} {g : TG} {tt : TT} {te : TE} {σ : St} {H : Hp} {Q : VK}
    (hg : g = gT X.K t) (htt : tt = tDT ⟨X.K, cl, noW⟩ fun ρ => (fc ρ).bind truth) (hte : te = tD ⟨X.K, cl, noW⟩ fe) (hwi : wi = tDI (wh X cl W) fi) (hσ : ∀ i ∈ own, i < σ.length) (hown : ∀ i ∈ t.all, i ∈ own)
    (h : tDF (wh X cl W) (lcD own t fi fc fe) σ H Q) : tLc wi g tt te own σ H Q := by
  obtain ⟨S, ρ, hS, hr, h⟩ := h
  subst hwi
  unfold lcD at h
  rw [post_bind] at h
  refine ⟨S, ρ, hS, hr, post_mono h (fun d p => ?_) fun _ z => z⟩
  cases d <;> try exact p.elim
  rename_i xs
  dsimp only at p ⊢
  intro J H1 S1 g1 hJ
  by_cases hz : xs.length ≤ big
  · rw [if_pos hz] at p
    cases hgo : lcGo t fc fe (wipeE ρ own) xs with
    | ok ys =>
      rw [hgo] at p
      exact lc_turns (X := X) (cl := cl) hg htt hte hσ hown hr g1 hJ hz hgo p
    | ex c => rw [hgo] at p; exact p.elim
    | bad => rw [hgo] at p; exact p.elim
  · rw [if_neg hz] at p; exact p.elim

theorem pe_impL {t t' : TE} (h : PE X e t) (hi : ∀ σ H Q, σ.length = X.N.length → t' σ H Q → t σ H Q) : PE X e t' := ⟨fun pins s σ H Q I q => h.run pins s σ H Q I (hi σ H Q I.len q)⟩
theorem ps_impL {st : Stmt} {t t' : TS} (h : PS X st t) (hi : ∀ D σ H, σ.length = X.N.length → t' D σ H → t D σ H) : PS X st t' := ⟨fun pins s σ H D I q => h.run pins s σ H D I (hi D σ H I.len q)⟩
/-- what a comprehension's parts are read as -/
structure LcP (X : Cx) (cl : Nat → Value) (W : WX) (elt tg iter : Expr) (ifs : List Expr) (scope : Scope) (own : List (Str × Nat)) (t : Tg) (fi fc fe : Env → R PyData) : Prop where
  it : SndI X cl W tg iter fi
  ok : BlkOk X.N X.env.scope scope own
  tg : ∀ (s : Shared) (H : Hp) (C : Addr) (c : List (Str × Addr)) (fp : List Addr), PG (X.blk s H scope (compEnvC scope c C X.env) fp) tg (gT X.K t)
  cond : ∀ (s : Shared) (H : Hp) (C : Addr) (c : List (Str × Addr)) (fp : List Addr), SndT (X.blk s H scope (compEnvC scope c C X.env) fp) cl noW ifs fc
  elt : ∀ (s : Shared) (H : Hp) (C : Addr) (c : List (Str × Addr)) (fp : List Addr), PE (X.blk s H scope (compEnvC scope c C X.env) fp) elt (tD ⟨X.K, cl, noW⟩ fe)
  ix : ∀ i ∈ own.map (·.2), i < X.N.length
  all : ∀ i ∈ t.all, i ∈ own.map (·.2)
  set : ∀ x, foldedSetIterable iter X.env x = pure x
theorem lcD_list {own : List Nat} {t : Tg} {fi fc fe : Env → R PyData} {ρ : Env} {d : PyData} (h : lcD own t fi fc fe ρ = .ok d) : ∃ ds, d = .list ds := by
  unfold lcD at h
  cases e : fi ρ with
  | ok x =>
    rw [e] at h
    cases x with
    | list xs =>
      have h : (if xs.length ≤ big then (match lcGo t fc fe (wipeE ρ own) xs with
        | .ok ys => R.ok (PyData.list ys)
        | _ => .bad) else .bad) = .ok d := h
      by_cases hz : xs.length ≤ big
      · rw [if_pos hz] at h
        cases q : lcGo t fc fe (wipeE ρ own) xs with
        | ok ys => rw [q] at h; cases h; exact ⟨ys, rfl⟩
        | ex c => rw [q] at h; cases h
        | bad => rw [q] at h; cases h
      · rw [if_neg hz] at h; cases h
    | _ => cases h
  | ex c => rw [e] at h; cases h
  | bad => rw [e] at h; cases h
theorem lc_fresh {elt tg iter : Expr} {ifs : List Expr} {scope : Scope} {own : List (Str × Nat)} {t : Tg} {fi fc fe : Env → R PyData} (hc : X.calm = true) (hN : X.N.Nodup) (h : LcP X cl W elt tg iter ifs scope own t fi fc fe) :
    PE X (.ListComp elt [⟨tg, iter, ifs, 0⟩] scope pos) (tDF (wh X cl W) (lcD (own.map (·.2)) t fi fc fe)) :=
  pe_impL (pe_lc hc hN h.it h.ok h.tg h.cond h.elt h.set) fun σ H Q hl q => lc_read (X := X) (cl := cl) (W := W) rfl rfl rfl rfl (fun i hi => by rw [hl]; exact h.ix i hi) h.all q
theorem snd_lc {elt tg iter : Expr} {ifs : List Expr} {scope : Scope} {own : List (Str × Nat)} {t : Tg} {fi fc fe : Env → R PyData} (hc : X.calm = true) (hN : X.N.Nodup) (h : LcP X cl W elt tg iter ifs scope own t fi fc fe) :
    Snd X cl W (.ListComp elt [⟨tg, iter, ifs, 0⟩] scope pos) (lcD (own.map (·.2)) t fi fc fe) :=
  Snd.of (pe_imp (lc_fresh hc hN h) fun σ H Q q => td_tdf (fun ρ d e => lcD_list e) q) rfl
/-- name = [..] on one line -/
theorem set_lc {elt tg iter : Expr} {ifs : List Expr} {scope : Scope} {own : List (Str × Nat)} {t : Tg} {fi fc fe : Env → R PyData} {i : Nat} {y : Str} {py spos : Pos} (hc : X.calm = true) (hN : X.N.Nodup) (h : LcP X cl W elt tg iter ifs scope own t fi fc fe)
    (hy : X.N[i]? = some y) (hyl : X.env.scope.names.lookup y = some .local) (hk : X.env.scope.kind = .function) (hl : (py.line == pos.line) = true) (ha : (scope.names.any fun (n, k) => n == y && (k == .local || k == .cell)) = false) :
    PS X (.Assign [.Name y py] (.ListComp elt [⟨tg, iter, ifs, 0⟩] scope pos) spos) (tAsg (tDF (wh X cl W) (lcD (own.map (·.2)) t fi fc fe)) (gName i)) :=
  ps_impL (ps_setLc hc hN hy hyl (sw_true hk hyl hl ha) h.it h.ok h.tg h.cond h.elt h.set) fun D σ H hl q => lc_read (X := X) (cl := cl) (W := W) rfl rfl rfl rfl (fun i hi => by rw [hl]; exact h.ix i hi) h.all q
end
end DL
namespace DL
open PySem PySem.Spec PyProof.Rows L2
variable [Tabs]

/-! ### the code object of a generator expression -/
omit [Tabs] in
theorem among_snoc {pos : Pos} {c v a b : Value} (l : List Value) (h : TriplesOk l) (e : codeAmong pos (l ++ [a, b, c]) = some v) : codeAmong pos l = some v ∨ v = c := by
  fun_induction TriplesOk l with
  | case1 =>
    cases a <;> cases b <;> simp only [List.nil_append, codeAmong] at e <;> first | (cases e; done) | skip
    split at e
    · cases e; exact .inr rfl
    · cases e
  | case2 x t y u z rest ih =>
    simp only [List.cons_append, codeAmong] at e ⊢
    split at e
    · rename_i hc; rw [if_pos hc]; exact .inl e
    · rename_i hc; rw [if_neg hc]; exact ih h e
  | case3 l h1 h2 => exact h.elim
omit [Tabs] in
theorem codeO_of {h : Heap} {c P : Addr} {ps : Array Value} (hc : h.IsCode c P ps) (ht : h.TableAt c P ps) : ∃ o, h.get? c = some o ∧ CodeO o P ∧ c ≠ P := by
  obtain ⟨o, vs, file, tf, flags, tg, inF, text, tt, e, e1, e2, e3, e4, e5, e6, e7, e8, n⟩ := PySem.W.CodeHd.of hc ht
  exact ⟨o, e, ⟨vs, file, tf, flags, tg, inF, text, tt, e1, e2, e3, e4, e5, e6, e7, e8⟩, n⟩
/-- the running code's object and its table -/
def CodeH (H : Hp) (h : Heap) (cd : Value) : Prop := ∃ c P ps, cd = .ref c ∧ PySem.W.CodeHd h c P ∧ H P = some (.tbl ps)
/-- behind the code object's making -/
structure CodeMade (H : Hp) (h : Heap) (cv : Value) (H1 : Hp) (h1 : Heap) : Prop where
  up : Up H H1
  tk : TkOk H1
  sz : h.objs.size ≤ h1.objs.size
  keep : ∀ b o, H b = none → h.get? b = some o → h1.get? b = some o
  none : ∀ b, b < h.objs.size → H b = none → H1 b = none
  code : ∃ a o P' ps', cv = .ref a ∧ H1 a = some (.frz o (.own 0)) ∧ CodeO o P' ∧ a ≠ P' ∧ H1 P' = some (.tbl ps')
section
variable {X : Cx} {pins : List (Addr × Obj)} {σ : L2.St} {H : Hp} {s : Shared}
theorem code_step {pos : Pos} {qual : Str} {scope : Scope} {E : Value → Shared → Prop} (I : Inv X pins σ H s) (tk : TkOk H) (hc : CodeH H s.heap X.env.code) :
    wpAny (model X.prog X.w) X.A (genexprCode X.env pos qual scope) (fun cv s1 => ∃ H1, Inv X pins σ H1 s1 ∧ CodeMade H s.heap cv H1 s1.heap) E s := by
  obtain ⟨c, P, ps, ec, cd, hP⟩ := hc
  have hPs : s.heap.get? P = some { cls := .none, data := .fields ps } := I.hok P _ hP
  obtain ⟨ht, hall⟩ := tk.all P ps hP
  have hPlt : P < s.heap.objs.size := Heap.lt_size hPs
  cases hf : codeAmong pos ps.toList with
  | some cv =>
    refine wpAny_genexprCode_hit ec (cd.code hPs ht) hf ?_
    obtain ⟨a, o, P', ps', e1, e2, e3, e4, e5⟩ := hall pos cv hf
    exact ⟨H, I, Up.refl H, tk, Nat.le_refl _, fun b o _ e => e, fun b _ n => n, a, o, P', ps', e1, e2, e3, e4, e5⟩
  | none =>
    refine wpAny_genexprCodeX ec (cd.code hPs ht) (cd.tab hPs) hf fun c' h' tk' hx hge hlt hco' hrec' htab' hnew => ?_
    obtain ⟨P', hP'ge, hcode2, htab2⟩ := hnew
    obtain ⟨o, ho, hO, hne⟩ := codeO_of hcode2 htab2
    have hP2 : h'.get? P' = some { cls := .none, data := .fields #[] } := htab2.2
    have hP1 : h'.get? P = some { cls := .none, data := .fields (ps ++ #[rawInt pos.line, rawInt pos.col, .ref c']) } := htab'.2
    have ncP : c' ≠ P := Nat.ne_of_gt (Nat.lt_of_lt_of_le hPlt hge)
    have nPP : P' ≠ P := Nat.ne_of_gt (Nat.lt_of_lt_of_le hPlt hP'ge)
    let H1 : Hp := upd (upd (upd H P (.tbl (ps ++ #[rawInt pos.line, rawInt pos.col, .ref c']))) c' (.frz o (.own 0))) P' (.tbl #[])
    have atP' : H1 P' = some (.tbl #[]) := upd_same
    have atc : H1 c' = some (.frz o (.own 0)) := by show upd _ _ _ _ = _; rw [upd_ne hne, upd_same]
    have atP : H1 P = some (.tbl (ps ++ #[rawInt pos.line, rawInt pos.col, .ref c'])) := by show upd _ _ _ _ = _; rw [upd_ne (Ne.symm nPP), upd_ne (Ne.symm ncP), upd_same]
    have at_ : ∀ b, b ≠ P' → b ≠ c' → b ≠ P → H1 b = H b := fun b h1 h2 h3 => by show upd _ _ _ _ = _; rw [upd_ne h1, upd_ne h2, upd_ne h3]
    have hc0 : H c' = none := I.hok.fresh hge
    have hP0 : H P' = none := I.hok.fresh hP'ge
    have keepO : ∀ b u, H b = some u → b ≠ P → H1 b = some u := fun b u e n => by
      rw [at_ b (ne_of_none e hP0) (ne_of_none e hc0) n]; exact e
    have noT : ∀ b u, H b = some u → (∀ q, u ≠ .tbl q) → b ≠ P := fun b u e q z => by
      rw [z, hP] at e; exact q ps (Option.some.inj e).symm
    have noN : ∀ b, H b = none → b ≠ P := fun b e z => by rw [z, hP] at e; cases e
    have kp : ∀ b u, b ≠ P → s.heap.get? b = some u → h'.get? b = some u := fun b u n e => hx b u n e
    have hsz : s.heap.objs.size ≤ h'.objs.size := Nat.le_trans hge (Nat.le_of_lt hlt)
    have J : Inv X pins σ H1 { s with heap := h', gens := s.gens, drawn := s.drawn, toks := tk' } := by
      refine I.step (g' := s.gens) (d' := s.drawn) (ch := []) (fun b hb => absurd hb (by simp)) (fun b u _ _ _ e n => kp b u (noN b n) e) (fun b u _ _ _ e n => ⟨u.slots, kp b u (noN b n) e⟩)
        (fun b u _ e n => ?_) (fun b u _ e => ?_) (fun b xs e => keepO b _ e (noT b _ e fun q z => by cases z)) (fun b ob u e => keepO b _ e (noT b _ e fun q z => by cases z)) (fun b qs e => ?_) (fun m hn => ?_) (fun b u e => ?_) I.bare
      · have hb := Heap.lt_size e
        rw [at_ b (fun z => by rw [z] at hb; exact absurd (Nat.lt_of_lt_of_le hb hP'ge) (Nat.lt_irrefl _)) (fun z => by rw [z] at hb; exact absurd (Nat.lt_of_lt_of_le hb hge) (Nat.lt_irrefl _)) (noN b n)]
        exact n
      · by_cases hb : b = P
        · rw [hb]; exact ⟨_, hP1⟩
        · exact ⟨u, kp b u hb e⟩
      · by_cases hb : b = P
        · rw [hb, hP] at e
          cases e
          rw [hb, atP]
          exact ⟨_, rfl⟩
        · rw [keepO b _ e hb]
          exact ⟨#[], by simp⟩
      · obtain ⟨ob, es, ep, ho', r⟩ := hn
        exact ⟨ob, es, ep, kp _ ob (noN _ I.free) ho', r⟩
      · by_cases h1 : b = P'
        · rw [h1] at e ⊢
          rw [atP'] at e
          cases e
          exact hP2
        · by_cases h2 : b = c'
          · rw [h2] at e ⊢
            rw [atc] at e
            cases e
            exact ⟨ho, _, ho⟩
          · by_cases h3 : b = P
            · rw [h3] at e ⊢
              rw [atP] at e
              cases e
              exact hP1
            · rw [at_ b h1 h2 h3] at e
              refine (I.hok b u e).stay (fun d v hd q => kp d v ?_ q) (fun d q => keepO d _ q (noT d _ q fun z w => by cases w)) fun d xs q => keepO d _ q (noT d _ q fun z w => by cases w)
              rcases hd with z | z
              · rw [z]; exact h3
              · exact noT d _ z fun q w => by cases w
    have tk1 : TkOk H1 := by
      refine ⟨fun Q qs e => ?_, fun Q hQ => ?_⟩
      · have old : ∀ v pos', codeAmong pos' ps.toList = some v → ∃ a o P' ps', v = Value.ref a ∧ H1 a = some (.frz o (.own 0)) ∧ CodeO o P' ∧ a ≠ P' ∧ H1 P' = some (.tbl ps') := fun v pos' hv => by
          obtain ⟨a, o2, P2, ps2, e1, e2, e3, e4, e5⟩ := hall pos' v hv
          refine ⟨a, o2, P2, ?_⟩
          by_cases z : P2 = P
          · exact ⟨_, e1, keepO a _ e2 (noT a _ e2 fun q w => by cases w), e3, e4, by rw [z]; exact atP⟩
          · exact ⟨ps2, e1, keepO a _ e2 (noT a _ e2 fun q w => by cases w), e3, e4, keepO P2 _ e5 z⟩
        by_cases h1 : Q = P'
        · rw [h1, atP'] at e
          cases e
          refine ⟨trivial, fun pos' v hv => ?_⟩
          simp [codeAmong] at hv
        · by_cases h2 : Q = c'
          · rw [h2, atc] at e; cases e
          · by_cases h3 : Q = P
            · rw [h3, atP] at e
              cases e
              have el : (ps ++ #[rawInt pos.line, rawInt pos.col, Value.ref c']).toList = ps.toList ++ [rawInt pos.line, rawInt pos.col, .ref c'] := by simp
              rw [el]
              refine ⟨TriplesOk_snoc _ _ _ _ ht, fun pos' v hv => ?_⟩
              rcases among_snoc _ ht hv with q | q
              · exact old v pos' q
              · exact ⟨c', o, P', #[], q, atc, hO, hne, atP'⟩
            · rw [at_ Q h1 h2 h3] at e
              obtain ⟨z1, z2⟩ := tk.all Q qs e
              refine ⟨z1, fun pos' v hv => ?_⟩
              obtain ⟨a, o2, P2, ps2, e1, e2, e3, e4, e5⟩ := z2 pos' v hv
              refine ⟨a, o2, P2, ?_⟩
              by_cases z : P2 = P
              · exact ⟨_, e1, keepO a _ e2 (noT a _ e2 fun q w => by cases w), e3, e4, by rw [z]; exact atP⟩
              · exact ⟨ps2, e1, keepO a _ e2 (noT a _ e2 fun q w => by cases w), e3, e4, keepO P2 _ e5 z⟩
      · obtain ⟨qs, e⟩ := tk.cs Q hQ
        by_cases z : Q = P
        · exact ⟨_, by rw [z]; exact atP⟩
        · exact ⟨qs, keepO Q _ e z⟩
    refine ⟨H1, J, ⟨fun b u e => ?_, fun _ => tk1⟩, tk1, hsz, fun b u n e => kp b u (noN b n) e, fun b hb n => ?_, c', o, P', #[], rfl, atc, hO, hne, atP'⟩
    · by_cases z : b = P
      · rw [z, hP] at e
        cases e
        exact .inr ⟨ps, _, rfl, by rw [z]; exact atP⟩
      · exact .inl (keepO b u e z)
    · rw [at_ b (fun z => by rw [z] at hb; exact absurd (Nat.lt_of_lt_of_le hb hP'ge) (Nat.lt_irrefl _)) (fun z => by rw [z] at hb; exact absurd (Nat.lt_of_lt_of_le hb hge) (Nat.lt_irrefl _)) (noN b n)]
      exact n
end
end DL
namespace DL
open PySem PySem.Spec PyProof.Rows L2
variable [Tabs]

/-! ### the frame of a generator expression -/
omit [Tabs] in
theorem newEnv_gen {M : Model} {A : Around} {E : Value → Shared → Prop} {s : Shared} {scope : Scope} {globals bi : Addr} {closure : List (Str × Addr)} {qual : Str} {code it : Value} {Q : PySem.Env → Shared → Prop}
    (hk : scope.kind = .function) (h0 : scope.names.lookup (".0" : Str) = some NameKind.local)
    (h : ∀ h' tk, h'.Ns s.heap.objs.size (fun y => if y = (".0" : Str) then some it else none) → Heap.SameBut s.heap.objs.size (pushCells (s.heap.push { cls := .type "frame", data := .dict #[] }) scope.names) h' →
      Q (newEnv scope s.heap.objs.size globals (cellsFrom (s.heap.objs.size + 1) scope.names closure) qual none code none bi) { s with heap := h', toks := tk }) :
    wpAny M A (newFunctionEnv scope globals closure [((".0" : Str), it)] qual none code none bi) Q E s := by
  simp only [newFunctionEnv, Option.isSome_none, Bool.false_eq_true, if_false]
  refine wpAny_bind (wpAny_alloc ?_)
  refine wpAny_bind (wpAny_layCells _ (fun n k c => rfl) scope.names closure _ _ ?_)
  rw [show ({ s with heap := s.heap.push { cls := .type "frame", data := .dict #[] } } : Shared).heap.objs.size = s.heap.objs.size + 1 from Heap.size_push ..]
  simp only [List.forIn_cons, List.forIn_nil]
  have hns : (pushCells (s.heap.push { cls := .type "frame", data := .dict #[] }) scope.names).Ns s.heap.objs.size (fun _ => none) := (Heap.Ns.new s.heap (.type "frame")).keeps (pushCells_keeps _ _)
  refine wpAny_bind (wpAny_bind (wpAny_bind (wpAny_storeName_local (env := newEnv scope s.heap.objs.size globals (cellsFrom (s.heap.objs.size + 1) scope.names closure) qual none code none bi) (m := fun _ => none) h0 hns (fun h' hn' hs' => ?_) (by show (scope.kind == .class || (scope.kind == .module && _)) = false; rw [hk]; rfl))))
  exact wpAny_pure (wpAny_pure (wpAny_pure (h h' _ hn' hs')))

/-- the context of a generator expression's frame that starts at s -/
abbrev genCx (X : Cx) (s : Shared) (H : Hp) (scope : Scope) (ce : PySem.Env) (fp : List Addr) (pn : List (Addr × Obj)) : Cx :=
  { X with A := (X.A.in1.in1).deeper ce, s_0 := s, H_0 := H, env := ce, outer := X.stack, stack := ce :: X.stack, ex := fp, fn := fun x => scope.names.lookup x == some .cell, pn := pn, xe := fun _ _ => False }
section
variable {X : Cx} {pins : List (Addr × Obj)} {σ : L2.St} {H : Hp} {s : Shared}
theorem gen_start {scope : Scope} {own : List (Str × Nat)} {fp : List Addr} {it cv : Value} {bi : Addr} {h5 : Heap} {G : Array GenState} {tk : Nat} {go : Obj} {ag : Addr}
    (I : Inv X pins σ H s) (ok : BlkOk X.N X.env.scope scope own) (hN : X.N.Nodup) (hfp : ∀ b ∈ fp, FpOk X pins H b ∧ b < s.heap.objs.size) (hbi : bi = builtinsNs) (h00 : (".0" : Str) ∉ X.N)
    (hns : h5.Ns s.heap.objs.size (fun y => if y = (".0" : Str) then some it else none)) (hsb : ∀ b o, b ≠ s.heap.objs.size → (pushCells (s.heap.push { cls := .type "frame", data := .dict #[] }) scope.names).get? b = some o → h5.get? b = some o)
    (hG : AllBare G) (hgo : h5.get? ag = some go) (hag : (pushCells (s.heap.push { cls := .type "frame", data := .dict #[] }) scope.names).objs.size ≤ ag) (hgd : ∀ v, go.data ≠ .cell v) :
    Inv (genCx X s H scope (genEnv scope (cellsFrom (s.heap.objs.size + 1) scope.names (cloFrom X.env.cells scope.names [])) s.heap.objs.size cv bi X.env) fp [(ag, go)]) [] (wipe σ (own.map (·.2))) H { s with heap := h5, gens := G, toks := tk } := by
  have hfree : ∀ y ∈ scope.names, y.2 = .free → ∃ c, X.env.cells.lookup y.1 = some c := fun y hy e => by
    rcases ok.free y hy e with k | k
    · exact I.ok.has _ (.inl k)
    · exact I.ok.has _ (.inr k)
  generalize hcenv : genEnv scope (cellsFrom (s.heap.objs.size + 1) scope.names (cloFrom X.env.cells scope.names [])) s.heap.objs.size cv bi X.env = cenv
  have kp0 : ∀ b o, s.heap.get? b = some o → (pushCells (s.heap.push { cls := .type "frame", data := .dict #[] }) scope.names).get? b = some o := fun b o e => pushCells_keeps _ _ _ _ (Heap.get?_push_of_some _ e)
  have kp : ∀ b o, s.heap.get? b = some o → h5.get? b = some o := fun b o e => hsb b o (Nat.ne_of_lt (Heap.lt_size e)) (kp0 b o e)
  have hL : cenv.locals = s.heap.objs.size := by rw [← hcenv]; rfl
  have hcl : cenv.cells = cellsFrom (s.heap.objs.size + 1) scope.names (cloFrom X.env.cells scope.names []) := by rw [← hcenv]; rfl
  have hsc : cenv.scope = scope := by rw [← hcenv]; rfl
  rw [← Heap.size_push s.heap { cls := .type "frame", data := .dict #[] }] at hcl
  have cm : ∀ {y c}, (y, c) ∈ cloFrom X.env.cells scope.names [] → X.env.cells.lookup y = some c ∧ c < s.heap.objs.size := fun {y c} hm => by
    rcases cloFrom_mem hm with hm | ⟨h1, rfl⟩
    · cases hm
    · obtain ⟨c, hc⟩ := hfree _ h1 rfl
      rw [hc]
      obtain ⟨w, z⟩ := I.cell _ _ hc
      exact ⟨rfl, z.lt⟩
  have mem : ∀ {y c}, cenv.cells.lookup y = some c → (X.env.cells.lookup y = some c ∧ c < s.heap.objs.size) ∨ (s.heap.objs.size + 1 ≤ c ∧ CellAt (pushCells (s.heap.push { cls := .type "frame", data := .dict #[] }) scope.names) c none) := fun {y c} e => by
    rw [hcl] at e
    rcases cells_mem (PySem.mem_of_lookup e) with hm | ⟨_, h2, h3⟩
    · exact .inl (cm hm)
    · rw [Heap.size_push] at h2; exact .inr ⟨h2, h3⟩
  have look : ∀ {y}, scope.names.lookup y = some .free → ∃ c, cenv.cells.lookup y = some c ∧ X.env.cells.lookup y = some c := fun {y} hl => by
    have hy : (y, NameKind.free) ∈ scope.names := PySem.mem_of_lookup hl
    obtain ⟨c', e'⟩ := mem_lookup (cells_acc (names := scope.names) (n := (s.heap.push { cls := .type "frame", data := .dict #[] }).objs.size) (cloFrom_has (cells := X.env.cells) (acc := []) hy))
    rw [← hcl] at e'
    refine ⟨c', e', ?_⟩
    rw [hcl] at e'
    rcases cells_mem (PySem.mem_of_lookup e') with hm | ⟨h1, _, _⟩
    · exact (cm hm).1
    · have := ok.uniq _ h1
      rw [hl] at this; cases this
  have cellK : ∀ {c v}, CellAt (pushCells (s.heap.push { cls := .type "frame", data := .dict #[] }) scope.names) c v → c ≠ s.heap.objs.size → CellAt h5 c v := fun {c v} ⟨o, ho, hd⟩ n => ⟨o, hsb c o n ho, hd⟩
  have stk : s.heap.FunFrames X.base X.stack := I.stack
  have okB : (genCx X s H scope cenv fp [(ag, go)]).Ok := by
    refine ⟨I.ok.mod, by show cenv.scope.kind = _; rw [hsc]; exact ok.kind, by show cenv.globals = _; rw [← hcenv]; exact I.ok.glob, by show cenv.builtins = _; rw [← hcenv]; exact hbi, by show s.heap.objs.size ≤ cenv.locals; rw [hL]; exact Nat.le_refl _,
      fun y z c e1 e2 => ?_, fun y hy => ?_, fun y c z e => ?_, I.ok.hd, ?_, .inr ⟨rfl, by show cenv.frame = some cenv.locals; rw [← hcenv]; rfl⟩, fun b hb => ⟨?_, fun y c e z => ?_⟩, I.bs, Nat.le_trans I.ok.bsz I.sz, fun b o e hb => ?_, fun b hb z => ?_, I.stack, I.stkFree⟩
    · have e1 : cenv.cells.lookup y = some c := e1
      have e2 : cenv.cells.lookup z = some c := e2
      rw [hcl] at e1 e2
      refine cells_inj (fun p hp => ?_) (fun y z c a b => I.ok.inj y z c (cm a).1 (cm b).1) (PySem.mem_of_lookup e1) (PySem.mem_of_lookup e2)
      rw [Heap.size_push]
      exact Nat.lt_succ_of_lt (cm (y := p.1) (c := p.2) hp).2
    · show ∃ c, cenv.cells.lookup y = some c
      have key : ∀ k, cenv.kindOf y = some k → (k = .cell ∨ k = .free) → ∃ c, cenv.cells.lookup y = some c := fun k hk hk' => by
        unfold PySem.Env.kindOf at hk
        rw [hsc] at hk
        rcases hk' with rfl | rfl
        · obtain ⟨c, hm⟩ := cells_has (n := (s.heap.push { cls := .type "frame", data := .dict #[] }).objs.size) (acc := cloFrom X.env.cells scope.names []) (PySem.mem_of_lookup hk)
          obtain ⟨c', e'⟩ := mem_lookup hm
          exact ⟨c', by rw [hcl]; exact e'⟩
        · obtain ⟨c, h1, _⟩ := look hk
          exact ⟨c, h1⟩
      rcases hy with hy | hy
      · exact key _ hy (.inl rfl)
      · exact key _ hy (.inr rfl)
    · have z : (scope.names.lookup y == some NameKind.cell) = true := z
      have z : scope.names.lookup y = some .cell := by simpa using z
      have e : cenv.cells.lookup y = some c := e
      rw [hcl] at e
      rcases cells_mem (PySem.mem_of_lookup e) with hm | ⟨_, h2, _⟩
      · rcases cloFrom_mem hm with hm | ⟨h1, _⟩
        · cases hm
        · have q := ok.uniq _ h1
          rw [z] at q; cases q
      · rw [Heap.size_push] at h2
        exact Nat.le_of_succ_le h2
    · show ((X.A.in1.in1).deeper cenv).frames = some (cenv :: X.stack)
      have e := I.ok.frames
      show X.A.frames.map (cenv :: ·) = _
      rw [e]; rfl
    · show b ≠ cenv.locals
      rw [hL]; exact Nat.ne_of_lt (hfp b hb).2
    · have e : cenv.cells.lookup y = some c := e
      rcases mem e with ⟨h1, _⟩ | ⟨h1, _⟩
      · exact (hfp b hb).1.2.2.2.2.1 y c h1 z
      · have h2 : s.heap.objs.size + 1 ≤ b := by rw [← z]; exact h1
        exact absurd (Nat.lt_of_lt_of_le (hfp b hb).2 (Nat.le_of_succ_le h2)) (Nat.lt_irrefl _)
    · rcases (hfp b hb).1.2.2.2.1 with z | z
      · exact I.ok.noex b o e z
      · exact absurd (Nat.lt_of_lt_of_le (Heap.lt_size e) (Nat.le_trans I.ok.bsz z)) (Nat.lt_irrefl _)
    · rcases List.mem_cons.mp (I.stkSub b z) with z | z
      · exact (hfp b hb).1.2.1 z
      · exact (hfp b hb).1.2.2.1 z
  have lt0 : ∀ b, s.heap.objs.size ≤ b → H b = none := fun b hb => I.hok.fresh hb
  have szP : s.heap.objs.size < (pushCells (s.heap.push { cls := .type "frame", data := .dict #[] }) scope.names).objs.size := Nat.lt_of_lt_of_le (by rw [Heap.size_push]; exact Nat.lt_succ_self _) (pushCells_size scope.names (s.heap.push { cls := .type "frame", data := .dict #[] }))
  have agS : s.heap.objs.size < ag := Nat.lt_of_lt_of_le szP hag
  refine ⟨okB, rfl, hG, Un.kept kp, ⟨_, by show Heap.Ns _ cenv.locals _; rw [hL]; exact hns, fun i y av e1 e2 e3 => ?_⟩, fun y c e => ?_, ?_, fun y c e => ?_, fun p hp => ?_, I.hok.kept kp, by rw [wipe_length]; exact I.len⟩
  · obtain ⟨e2, hne⟩ := wipe_some e2
    have hfr : scope.names.lookup y = some .free ∧ (cenv.kindOf y = some .cell ∨ cenv.kindOf y = some .free) := by
      have key : ∀ k, cenv.scope.names.lookup y = some k → k = .local ∨ k = .cell ∨ k = .free → scope.names.lookup y = some .free ∧ (cenv.kindOf y = some .cell ∨ cenv.kindOf y = some .free) := fun k hk hk' => by
        have hk0 := hk
        rw [hsc] at hk
        have no : ¬ (k = .local ∨ k = .cell) := fun hh => by
          rcases ok.own _ (PySem.mem_of_lookup hk) hh with e' | e'
          · obtain ⟨p, hp, hpy⟩ := List.mem_map.mp e'
            have e3 := ok.ix p hp
            have : p.1 = y := hpy
            rw [this] at e3
            exact hne (List.mem_map.mpr ⟨p, hp, nodup_ix hN e3 e1⟩)
          · exact e' (List.mem_of_getElem? e1)
        rcases hk' with rfl | rfl | rfl
        · exact absurd (.inl rfl) no
        · exact absurd (.inr rfl) no
        · exact ⟨hk, .inr hk0⟩
      have e3 : Vis cenv.scope y := e3
      rcases e3 with e3 | e3 | e3
      · exact key _ e3 (.inl rfl)
      · exact key _ e3 (.inr (.inl rfl))
      · exact key _ e3 (.inr (.inr rfl))
    obtain ⟨m, hn, hl⟩ := I.loc
    have hvis : Vis X.env.scope y := (ok.free _ (PySem.mem_of_lookup hfr.1) rfl).elim (fun k => .inr (.inl k)) (fun k => .inr (.inr k))
    obtain ⟨w, r, q⟩ := hl i y av e1 e2 hvis
    refine ⟨w, r, .inr ⟨hfr.2, ?_⟩⟩
    obtain ⟨c, h1, h2⟩ := look hfr.1
    rcases q with ⟨k, _⟩ | ⟨_, c', e', z⟩
    · have k : X.env.scope.names.lookup y = some .local := k
      rcases ok.free _ (PySem.mem_of_lookup hfr.1) rfl with k' | k' <;> rw [show X.env.scope.names.lookup y = _ from k'] at k <;> cases k
    · rw [h2] at e'; cases e'
      exact ⟨c, h1, z.keeps kp⟩
  · have e : cenv.cells.lookup y = some c := e
    rcases mem e with ⟨h1, _⟩ | ⟨h1, z⟩
    · obtain ⟨w, z⟩ := I.cell y c h1
      exact ⟨w, z.keeps kp⟩
    · exact ⟨_, cellK z (Nat.ne_of_gt h1)⟩
  · show H cenv.locals = none
    rw [hL]; exact lt0 _ (Nat.le_refl _)
  · have e : cenv.cells.lookup y = some c := e
    rcases mem e with ⟨h1, _⟩ | ⟨h1, _⟩
    · exact I.freeC y c h1
    · exact lt0 _ (Nat.le_of_succ_le h1)
  · have hp : p ∈ [(ag, go)] ++ ([] : List (Addr × Obj)) := hp
    have hp : p = (ag, go) := by simpa using hp
    subst hp
    refine ⟨hgo, lt0 _ (Nat.le_of_lt agS), ?_, fun z => ?_, hgd⟩
    · show ag ≠ cenv.locals
      rw [hL]; exact Nat.ne_of_gt agS
    · have z : ag ∈ frs X.stack := z
      rcases List.mem_cons.mp (I.stkSub ag z) with z | z
      · rw [z] at agS; exact absurd (Nat.lt_trans agS I.lt) (Nat.lt_irrefl _)
      · exact absurd z (I.nofs (Nat.le_of_lt agS))
end
end DL
namespace DL
open PySem PySem.Spec PyProof.Rows L2

theorem inv_gens {X : Cx} {pins : List (Addr × Obj)} {σ : L2.St} {H : Hp} {s s' : Shared} (I : Inv X pins σ H s) (h : s'.heap = s.heap) (o : s'.os = s.os) (g : AllBare s'.gens) : Inv X pins σ H s' := by
  obtain ⟨hh, gg, d, t, oo⟩ := s'
  have h : hh = s.heap := h
  subst h
  exact ⟨I.ok, o.trans I.os, g, I.base, I.loc, I.cell, I.free, I.freeC, I.pin, I.hok, I.len⟩
/-- a value's truth, of a yes, a no or a number -/
def IsB (v : Value) (b : Bool) : Prop := v = .bool b ∨ ∃ k t, v = .int k t ∧ b = (k != 0)
theorem truthy_B {prog : Program} {w : World} {A : Around} {E : Value → Shared → Prop} {s : Shared} {v : Value} {b : Bool} {Q : Bool → Shared → Prop} (h : IsB v b) (q : Q b s) : wpAny (model prog w) A (truthy v) Q E s := by
  rcases h with e | ⟨k, t, e, e2⟩
  · subst e; exact wpAny_truthy_bool q
  · subst e e2; exact PySem.P.truthy_int q
def VB (y : V) (b : Bool) : Prop := y = .bl b ∨ ∃ k, y = .int k ∧ b = (k != 0)
theorem VB.is {y : V} {u : Value} {b : Bool} (h : VB y b) (r : RelV y u) : IsB u b := by
  rcases h with e | ⟨k, e, e2⟩
  · subst e; cases r; exact .inl rfl
  · subst e
    obtain ⟨t, e3⟩ := r
    exact .inr ⟨k, t, e3, e2⟩

/-- what the generator's end tells -/
def gEnd (G : Cx) (σw : L2.St) (g : Nat) (w : Bool) (Q : VK) : GenEnd := fun n _ r s₁ => r = .ok .next ∧ (n = 0 ∧ ∃ H, Inv G [] σw H s₁ ∧ g < s₁.gens.size ∧ Q (.bl w) H)
/-- what stands when an item is handed out -/
def gYld (G : Cx) (σw : L2.St) (g : Nat) (w : Bool) (Q : VK) : Protocol := fun _ _ v s kap => ∃ b H, IsB v b ∧ Inv G [] σw H s ∧ g < s.gens.size ∧ (b ≠ w → Q (.bl (!w)) H) ∧
  (b = w → ∀ s'' : Shared, s''.heap = s.heap → s''.os = s.os → AllBare s''.gens → g < s''.gens.size → kap (.send .none) s'')
/-- the turns of a generator expression, n at most; w: the truth that goes on -/
def gTurn (J : It) (gt : TG) (te : TE) (σ0 : L2.St) (vs : List Nat) (n : Nat) (w : Bool) (Q : VK) (W : Nat → Hp → Prop) : Prop := ∀ i H, W i H →
  (i = n → J.stop i H ∧ Q (.bl w) H) ∧ (i < n → J.go i H ∧ ∀ x H', J.yld i H x H' → gt x (wipe σ0 vs) H' fun σ2 H2 => wipe σ2 vs = wipe σ0 vs ∧ te σ2 H2 fun y H3 => ∃ b, VB y b ∧ (b = w → W (i + 1) H3) ∧ (b ≠ w → Q (.bl (!w)) H3))
section
variable {G : Cx} {A0 : Around} {elt tg iter : Expr} {scope : Scope} {pos : Pos} {I0 : Addr} {fp : List Addr} {tn : Nat → Heap → Prop} {J : It} {gt : TG} {te : TE} {σ0 : L2.St} {vs : List Nat} {n g : Nat} {w : Bool} {Q : VK} {W : Nat → Hp → Prop}
theorem gen_loop (hA : A0.over (.compLoop (.GeneratorExp elt [⟨tg, iter, [], 0⟩] scope pos) 0 (.ref I0) .none G.env) [] = G.A)
    (hc : G.calm = true) (hco : G.env.scope.isCoroutine = false) (hex : G.ex = fp) (hpn : ∀ p ∈ G.pn, p.1 ∉ fp) (hxe : G.xe = fun _ _ => False)
    (T : Turn G.prog G.w G.K tg J fp I0 tn) (pg : PG G tg gt) (pe : PE G elt te) (turn : gTurn J gt te σ0 vs n w Q W) :
    ∀ (k i : Nat) (s₀ s : Shared) (H : Hp), n - i = k → i ≤ n → Inv G [] (wipe σ0 vs) H s → tn i s.heap → (∀ b ∈ fp, H b = none) → W i H → g < s.gens.size →
      Seg (model G.prog G.w) A0 (gEnd G (wipe σ0 vs) g w Q) (gYld G (wipe σ0 vs) g w Q) k s₀ (.compLoop (.GeneratorExp elt [⟨tg, iter, [], 0⟩] scope pos) 0 (.ref I0) .none G.env)
        ((model G.prog G.w).den (.compLoop (.GeneratorExp elt [⟨tg, iter, [], 0⟩] scope pos) 0 (.ref I0) .none G.env)) [] s := by
  have stat : ∀ {σ' : L2.St} {H' : Hp} {s' : Shared}, Inv G [] σ' H' s' → (∀ b ∈ fp, H' b = none) → ∀ b ∈ fp, FpOk G [] H' b := fun {σ' H' s'} I' hn b hb =>
    ⟨hn b hb, (I'.ok.exf b (by rw [hex]; exact hb)).1, I'.ok.exfs b (by rw [hex]; exact hb), .inl (by rw [hex]; exact hb), fun x c e => (I'.ok.exf b (by rw [hex]; exact hb)).2 x c e, fun p hp z => by
      rw [List.append_nil] at hp
      exact hpn p hp (by rw [z]; exact hb)⟩
  intro k
  induction k with
  | zero =>
    intro i s₀ s H hk hi hI htn hfn hW hg
    have hin : i = n := by omega
    obtain ⟨hstop, hQ⟩ := (turn i H hW).1 hin
    show Seg _ A0 _ _ _ s₀ _ ((compTurn (.GeneratorExp elt [⟨tg, iter, [], 0⟩] scope pos) 0 (.ref I0) .none G.env).onRaise (leaving G.env)) [] s
    rw [compTurn_gen, Sem.onRaise_eq_wrap]
    refine seg_bind_wrap (wpAny_standAt ?_)
    refine seg_bind_wrap ?_
    rw [hA]
    refine GenW.wpAny_gsz (n := g + 1) hg (thnF (T.done G rfl rfl rfl hc i [] s _ H (fun _ _ => False) hI (stat hI hfn) htn hstop) fun r s1 ⟨hr, I1⟩ hg1 => ?_)
    subst hr
    exact seg_end (.ok .next) ⟨rfl, rfl, H, I1, hg1, hQ⟩
  | succ k ih =>
    intro i s₀ s H hk hi hI htn hfn hW hg
    have hlt : i < n := by omega
    obtain ⟨hgo, step⟩ := (turn i H hW).2 hlt
    show Seg _ A0 _ _ _ s₀ _ ((compTurn (.GeneratorExp elt [⟨tg, iter, [], 0⟩] scope pos) 0 (.ref I0) .none G.env).onRaise (leaving G.env)) [] s
    rw [compTurn_gen, Sem.onRaise_eq_wrap]
    refine seg_bind_wrap (wpAny_standAt ?_)
    refine seg_bind_wrap ?_
    rw [hA]
    refine GenW.wpAny_gsz (n := g + 1) hg (thnF (T.item G rfl rfl rfl hc i [] s _ H (fun _ _ => False) hI (stat hI hfn) htn hgo) fun r s1 ⟨u, hr, h1⟩ hg1 => ?_)
    subst hr
    refine seg_bind_wrap ?_
    rw [hA]
    refine GenW.wpAny_gsz (n := g + 1) hg1 (thnF h1 fun _ s2 ⟨x, H2, I2, r2, y2, st2, n2⟩ hg2 => ?_)
    have I2' := I2.pinned (stat I2 n2) (T.obj _ _ st2)
    refine seg_bind_wrap ?_
    rw [hA]
    have q3 := pg.run _ s2 _ H2 x u _ I2' r2 (step x H2 y2)
    rw [hxe] at q3
    refine GenW.wpAny_gsz (n := g + 1) hg2 (thnF q3 fun _ s3 ⟨σ3, H3, I3, hw3, q3⟩ hg3 => ?_)
    refine seg_bind_wrap (wpAny_tests_nil ?_)
    simp only [if_true]
    have hy : ∀ v, yieldOut G.env v = yieldValue v := fun v => by simp only [yieldOut, hco, Bool.false_eq_true, if_false]
    simp only [hy]
    rw [Sem.bind_eq_wrap', Sem.bind_eq_wrap', Sem.wrap_wrap, Sem.wrap_wrap]
    refine seg_wrap ?_
    rw [hA]
    have q4 := pe.run _ s3 _ H3 _ I3 q3
    rw [hxe] at q4
    refine GenW.wpAny_gsz (n := g + 1) hg3 (thnF q4 fun v s4 ⟨y, H4, I4, r4, b, hb, hgo4, hend4⟩ hg4 => ?_)
    have pin' : ∀ b ∈ fp, ∀ o, s2.heap.get? b = some o → s4.heap.get? b = some o ∧ H4 b = none := fun b hb o e =>
      let z := I4.pin (b, o) (List.mem_append_right _ (List.mem_append_right _ (mem_pinsAt hb e)))
      ⟨z.1, z.2.1⟩
    have hl : (wipe σ0 vs).length = σ3.length := by rw [← hw3, wipe_length]
    have J4 : Inv G [] (wipe σ0 vs) H4 s4 := (I4.unpinned (pins := [])).weak hl fun j v e => by
      rw [← hw3] at e
      exact (wipe_some e).1
    have t4 : tn (i + 1) s4.heap := T.keep _ _ _ st2 fun b hb o e => (pin' b hb o e).1
    have n4 : ∀ b ∈ fp, H4 b = none := fun b hb => by
      obtain ⟨o, e, _⟩ := T.obj _ _ st2 b hb
      exact (pin' b hb o e).2
    refine seg_at (seg_yield rfl rfl rfl ⟨b, H4, hb.is r4, J4, hg4, hend4, fun eb s5 e1 e2 e3 e4 => ?_⟩)
    exact seg_again rfl (ih (i + 1) s5 s5 H4 (by omega) hlt (inv_gens J4 e1 e2 e3) (by rw [e1]; exact t4) n4 (hgo4 eb) e4)
end
end DL
namespace DL
open PySem PySem.Spec PyProof.Rows L2

section
variable {G : Cx} {A0 : Around} {elt tg iter : Expr} {scope : Scope} {pos : Pos} {I0 : Addr} {fp : List Addr} {tn : Nat → Heap → Prop} {J : It} {gt : TG} {te : TE} {σ0 : L2.St} {vs : List Nat} {n g : Nat} {w : Bool} {Q : VK} {W : Nat → Hp → Prop}
theorem gen_begin (hB : A0.over (.compStart (.GeneratorExp elt [⟨tg, iter, [], 0⟩] scope pos) 0 (.ref I0) .none G.env) [] = G.A) (hA : A0.over (.compLoop (.GeneratorExp elt [⟨tg, iter, [], 0⟩] scope pos) 0 (.ref I0) .none G.env) [] = G.A)
    (hc : G.calm = true) (hco : G.env.scope.isCoroutine = false) (hex : G.ex = fp) (hpn : ∀ p ∈ G.pn, p.1 ∉ fp) (hxe : G.xe = fun _ _ => False)
    (T : Turn G.prog G.w G.K tg J fp I0 tn) (pg : PG G tg gt) (pe : PE G elt te) (turn : gTurn J gt te σ0 vs n w Q W)
    (s₀ s : Shared) (H : Hp) (hI : Inv G [] (wipe σ0 vs) H s) (htn : tn 0 s.heap) (hfn : ∀ b ∈ fp, H b = none) (hW : W 0 H) (hg : g < s.gens.size) :
    Seg (model G.prog G.w) A0 (gEnd G (wipe σ0 vs) g w Q) (gYld G (wipe σ0 vs) g w Q) n s₀ (.compStart (.GeneratorExp elt [⟨tg, iter, [], 0⟩] scope pos) 0 (.ref I0) .none G.env)
      ((model G.prog G.w).den (.compStart (.GeneratorExp elt [⟨tg, iter, [], 0⟩] scope pos) 0 (.ref I0) .none G.env)) [] s := by
  have loop := gen_loop hA hc hco hex hpn hxe T pg pe turn n 0 s₀ s H (Nat.sub_zero _) (Nat.zero_le _) hI htn hfn hW hg
  show Seg _ A0 _ _ _ s₀ _ ((compStart (.GeneratorExp elt [⟨tg, iter, [], 0⟩] scope pos) 0 (.ref I0) .none G.env).onRaise (leaving G.env)) [] s
  unfold compStart
  rw [Sem.onRaise_eq_wrap]
  show Seg _ A0 _ _ _ s₀ _ ((ask >>= _).wrap _ _ _ _) [] s
  refine seg_bind_wrap (wpAny_askSetting ?_)
  split
  · exact seg_again rfl loop
  · first
      | exact seg_bind_wrap (wpAny_rule (seg_bind_wrap (wpAny_standAt (seg_bind_wrap (T.self _ 0 s _ _ htn (seg_again rfl loop))))))
      | (refine seg_bind_wrap (wpAny_rule ?_); show Seg _ A0 _ _ _ s₀ _ ((standAt iter.pos >>= _).wrap _ _ _ _) [] s; exact seg_bind_wrap (wpAny_standAt (seg_bind_wrap (T.self _ 0 s _ _ htn (seg_again rfl loop)))))

theorem allBare_set {G : Array GenState} {g : Nat} {x : GenState} (h : AllBare G) (hx : x.bare = true) : AllBare (G.setIfInBounds g x) := fun y hy => by
  obtain ⟨i, hi, e⟩ := Array.mem_iff_getElem.mp hy
  rw [Array.size_setIfInBounds] at hi
  rw [Array.getElem_setIfInBounds (hj := hi)] at e
  split at e
  · rw [← e]; exact hx
  · rw [← e]; exact h _ (Array.getElem_mem hi)
theorem setGen_at {s : Shared} {g : Nat} {x : GenState} (h : g < s.gens.size) : (s.setGen g x).gens[g]? = some x := by
  simp [Shared.setGen, h]
/-- the generator sleeps at g; what comes of it -/
def Sleeps (G : Cx) (A0 : Around) (σw : L2.St) (g : Nat) (w : Bool) (Q : VK) (k : Nat) (s : Shared) : Prop :=
  ∃ H gs, Inv G [] σw H s ∧ g < s.gens.size ∧ s.gens[g]? = some gs ∧ gs.Goes (model G.prog G.w) A0 (gEnd G σw g w Q) (gYld G σw g w Q) k (.send .none) (s.setGen g .running)
variable {A : Around} {ag : Addr} {go : Obj} {nm qn : Value} {σw : L2.St} {Rr : Result → Shared → Prop}
/-- one step of any, of all -/
theorem aa_next {k : Nat} {s : Shared} {Qn : Option Value → Shared → Prop} {E : Value → Shared → Prop} (hh : A.handled = none) (hroom : A.depth < recursionLimit) (hpin : (ag, go) ∈ G.pn) (hcl : go.cls = .type "generator") (hda : go.data = .fields #[.int g 0, nm, qn]) (hsl : go.slots = #[])
    (h : Sleeps G A.in1 σw g w Q k s)
    (hY : ∀ v b s' , IsB v b → (∃ H, Inv G [] σw H s' ∧ (b ≠ w → Q (.bl (!w)) H)) → (b = w → ∃ m, k = m + 1 ∧ Sleeps G A.in1 σw g w Q m s') → Qn (some v) s')
    (hN : ∀ s' H, Inv G [] σw H s' → Q (.bl w) H → Qn none s') : wpAny (model G.prog G.w) A (pyNext (.ref ag)) Qn E s := by
  obtain ⟨H, gs, I, hg, hgs, hgo⟩ := h
  have hgen : s.heap.IsGen ag g := ⟨go, nm, qn, (I.pin (ag, go) (List.mem_append_left _ hpin)).1, hcl, hda, hsl⟩
  refine wpAny_pyNext_genexpQ (P := fun n _ s₁ => n = 0 ∧ ∃ H, Inv G [] σw H s₁ ∧ g < s₁.gens.size ∧ Q (.bl w) H) hh I.nolimit hroom hgen hgs hgo (fun v s1 gs' hb hv => ?_) (fun s1 hp h' hk => ?_)
  · obtain ⟨b, H1, hv1, I1, hg1, hend, hcont⟩ := hv
    have I1' : Inv G [] σw H1 (s1.setGen g gs') := inv_gens I1 rfl rfl (allBare_set I1.bare hb)
    refine hY v b _ hv1 ⟨H1, I1', hend⟩ fun eb => ?_
    have hs : g < (s1.setGen g gs').gens.size := by rw [GenW.setGen_size]; exact hg1
    have z := hcont eb ((s1.setGen g gs').setGen g .running) rfl rfl (allBare_set (allBare_set I1.bare hb) rfl) (by rw [GenW.setGen_size]; exact hs)
    cases k with
    | zero => exact z.elim
    | succ m => exact ⟨m, rfl, H1, gs', I1', hs, setGen_at hg1, z⟩
  · obtain ⟨_, H1, I1, hg1, hQ⟩ := hp
    have I1' : Inv G [] σw H1 (s1.setGen g .finished) := inv_gens I1 rfl rfl (allBare_set I1.bare rfl)
    exact hN _ H1 (I1'.kept (t' := s1.toks) (h' := h') hk) hQ
theorem all_gen (hh : A.handled = none) (hroom : A.depth < recursionLimit) (hpin : (ag, go) ∈ G.pn) (hcl : go.cls = .type "generator") (hda : go.data = .fields #[.int g 0, nm, qn]) (hsl : go.slots = #[])
    (hR : ∀ s' H b, Inv G [] σw H s' → Q (.bl b) H → Rr (.ok (.ret (.bool b))) s') :
    ∀ (k : Nat) (s : Shared), Sleeps G A.in1.in1 σw g true Q k s → codeAny (model G.prog G.w) A (.builtin "all.loop" ⟨[.ref ag], []⟩) Rr s := by
  intro k
  induction k with
  | zero =>
    intro s hs
    refine codeAny_builtin F.entry_all_loop ?_
    rw [Around.under_plainId F.plain_all_loop _]
    show wpAny _ A.in1 (pyNext (.ref ag) >>= _) _ _ s
    refine wpAny_bind (aa_next (A := A.in1) hh hroom hpin hcl hda hsl hs (fun v b s' hb hQ hk => ?_) fun s' H I hq => ?_)
    · refine wpAny_bind (wpAny_holding (truthy_B hb ?_))
      refine wpAny_bind (wpAny_letGo ?_)
      cases b with
      | true => obtain ⟨m, e, _⟩ := hk rfl; cases e
      | false =>
        obtain ⟨H, I, q⟩ := hQ
        simp only [Bool.false_eq_true, if_false]
        exact wpAny_bind (wpAny_rule (wpAny_pure (hR s' H false I (q (by decide)))))
    · exact wpAny_bind (wpAny_rule (wpAny_pure (hR s' H true I hq)))
  | succ k ih =>
    intro s hs
    refine codeAny_builtin F.entry_all_loop ?_
    rw [Around.under_plainId F.plain_all_loop _]
    show wpAny _ A.in1 (pyNext (.ref ag) >>= _) _ _ s
    refine wpAny_bind (aa_next (A := A.in1) hh hroom hpin hcl hda hsl hs (fun v b s' hb hQ hk => ?_) fun s' H I hq => ?_)
    · refine wpAny_bind (wpAny_holding (truthy_B hb ?_))
      refine wpAny_bind (wpAny_letGo ?_)
      cases b with
      | true =>
        obtain ⟨m, e, hs'⟩ := hk rfl
        cases e
        simp only [if_true]
        exact wpAny_pure ⟨plainId_quiet F.plain_all_loop _, ih s' hs'⟩
      | false =>
        obtain ⟨H, I, q⟩ := hQ
        simp only [Bool.false_eq_true, if_false]
        exact wpAny_bind (wpAny_rule (wpAny_pure (hR s' H false I (q (by decide)))))
    · exact wpAny_bind (wpAny_rule (wpAny_pure (hR s' H true I hq)))
theorem any_gen (hh : A.handled = none) (hroom : A.depth < recursionLimit) (hpin : (ag, go) ∈ G.pn) (hcl : go.cls = .type "generator") (hda : go.data = .fields #[.int g 0, nm, qn]) (hsl : go.slots = #[])
    (hR : ∀ s' H b, Inv G [] σw H s' → Q (.bl b) H → Rr (.ok (.ret (.bool b))) s') :
    ∀ (k : Nat) (s : Shared), Sleeps G A.in1.in1 σw g false Q k s → codeAny (model G.prog G.w) A (.builtin "any.loop" ⟨[.ref ag], []⟩) Rr s := by
  intro k
  induction k with
  | zero =>
    intro s hs
    refine codeAny_builtin F.entry_any_loop ?_
    rw [Around.under_plainId F.plain_any_loop _]
    show wpAny _ A.in1 (pyNext (.ref ag) >>= _) _ _ s
    refine wpAny_bind (aa_next (A := A.in1) hh hroom hpin hcl hda hsl hs (fun v b s' hb hQ hk => ?_) fun s' H I hq => ?_)
    · refine wpAny_bind (wpAny_holding (truthy_B hb ?_))
      refine wpAny_bind (wpAny_letGo ?_)
      cases b with
      | false => obtain ⟨m, e, _⟩ := hk rfl; cases e
      | true =>
        obtain ⟨H, I, q⟩ := hQ
        simp only [if_true]
        exact wpAny_bind (wpAny_rule (wpAny_pure (hR s' H true I (q (by decide)))))
    · exact wpAny_bind (wpAny_rule (wpAny_pure (hR s' H false I hq)))
  | succ k ih =>
    intro s hs
    refine codeAny_builtin F.entry_any_loop ?_
    rw [Around.under_plainId F.plain_any_loop _]
    show wpAny _ A.in1 (pyNext (.ref ag) >>= _) _ _ s
    refine wpAny_bind (aa_next (A := A.in1) hh hroom hpin hcl hda hsl hs (fun v b s' hb hQ hk => ?_) fun s' H I hq => ?_)
    · refine wpAny_bind (wpAny_holding (truthy_B hb ?_))
      refine wpAny_bind (wpAny_letGo ?_)
      cases b with
      | false =>
        obtain ⟨m, e, hs'⟩ := hk rfl
        cases e
        simp only [Bool.false_eq_true, if_false]
        exact wpAny_pure ⟨plainId_quiet F.plain_any_loop _, ih s' hs'⟩
      | true =>
        obtain ⟨H, I, q⟩ := hQ
        simp only [if_true]
        exact wpAny_bind (wpAny_rule (wpAny_pure (hR s' H true I (q (by decide)))))
    · exact wpAny_bind (wpAny_rule (wpAny_pure (hR s' H false I hq)))
end
end DL
set_option pp.deepTerms false
namespace DL
open PySem PySem.Spec PyProof.Rows L2
variable [Tabs]

omit [Tabs] in
theorem over_genL {A : Around} {elt tg iter : Expr} {scope : Scope} {pos : Pos} {it : Value} {ce : PySem.Env} : A.over (.compLoop (.GeneratorExp elt [⟨tg, iter, [], 0⟩] scope pos) 0 it .none ce) [] = A.deeper ce := by
  first
    | rfl
    | (obtain ⟨hd, d, fr, gs, u⟩ := A; simp [Around.over, Around.deeper, marksOver, frameCount, unitsOf, envsOf, guardsOf, pushEnvs, pushGuards, Code.envs, Code.env?, Code.isFrame, Code.guards, Code.isGuard, Code.weight, Code.frames, Code.isCreation, Code.isCaller, Code.cUnits])
omit [Tabs] in
theorem over_genS {A : Around} {elt tg iter : Expr} {scope : Scope} {pos : Pos} {it : Value} {ce : PySem.Env} : A.over (.compStart (.GeneratorExp elt [⟨tg, iter, [], 0⟩] scope pos) 0 it .none ce) [] = A.deeper ce := by
  first
    | rfl
    | (obtain ⟨hd, d, fr, gs, u⟩ := A; simp [Around.over, Around.deeper, marksOver, frameCount, unitsOf, envsOf, guardsOf, pushEnvs, pushGuards, Code.envs, Code.env?, Code.isFrame, Code.guards, Code.isGuard, Code.weight, Code.frames, Code.isCreation, Code.isCaller, Code.cUnits])
/-- the module's dict of built-ins -/
def BuiltAt (X : Cx) : Prop := ∃ bm o, X.mg "__builtins__" = some (.ref bm) ∧ bm ≠ builtinsNs ∧ X.base.get? bm = some o ∧ o.cls = .type "module" ∧ o.dict = some builtinsNs ∧ o.data = .plain
/-- a new code object, known -/
def CodeN (H : Hp) (cv : Value) : Prop := ∃ a o P' ps', cv = .ref a ∧ H a = some (.frz o (.own 0)) ∧ CodeO o P' ∧ a ≠ P' ∧ H P' = some (.tbl ps')
/-- the parts of a generator expression -/
structure GenP (X : Cx) (elt tg iter : Expr) (scope : Scope) (own : List (Str × Nat)) (wi : TI) (gt : TG) (te : TE) : Prop where
  it : PI X tg iter wi
  ok : BlkOk X.N X.env.scope scope own
  co : scope.isCoroutine = false
  dot : scope.names.lookup (".0" : Str) = some NameKind.local
  n0 : (".0" : Str) ∉ X.N
  tg : ∀ (s : Shared) (H : Hp) (cl : List (Str × Addr)) (C : Addr) (cv : Value) (fp : List Addr) (pn : List (Addr × Obj)), CodeN H cv → PG (genCx X s H scope (genEnv scope cl C cv builtinsNs X.env) fp pn) tg gt
  elt : ∀ (s : Shared) (H : Hp) (cl : List (Str × Addr)) (C : Addr) (cv : Value) (fp : List Addr) (pn : List (Addr × Obj)), CodeN H cv → PE (genCx X s H scope (genEnv scope cl C cv builtinsNs X.env) fp pn) elt te
  fold : ∀ v, genFold iter X.env v = pure v
/-- any, all over a generator expression -/
def tAA (w : Bool) (wi : TI) (gt : TG) (te : TE) (vs : List Nat) : TE := fun σ H Q => wi σ H fun J H1 => TkOk H1 ∧ ∀ H2, Up H1 H2 → TkOk H2 → ∃ n W, W 0 H2 ∧ gTurn J gt te σ vs n w Q W
section
variable {X : Cx} {pins : List (Addr × Obj)} {σ : L2.St} {H : Hp} {s : Shared} {Q : VK} {elt tg iter : Expr} {scope : Scope} {own : List (Str × Nat)} {wi : TI} {gt : TG} {te : TE} {w : Bool} {k : Nat} {gpos pos p : Pos}
/-- the generator is made -/
theorem gen_made {Qf : Value → Shared → Prop} (hc : X.calm = true) (hN : X.N.Nodup) (hr : X.A.depth < recursionLimit) (hcode : ∀ pins σ H s, Inv X pins σ H s → TkOk H → CodeH H s.heap X.env.code) (hb : BuiltAt X) (G : GenP X elt tg iter scope own wi gt te) (I : Inv X pins σ H s)
    (h : tAA w wi gt te (own.map (·.2)) σ H Q)
    (hQ : ∀ (G' : Cx) (ag : Addr) (go : Obj) (nm qn : Value) (g n : Nat) (s' : Shared), G'.prog = X.prog → G'.w = X.w → (ag, go) ∈ G'.pn → go.cls = .type "generator" → go.data = .fields #[.int g 0, nm, qn] → go.slots = #[] → Sleeps G' X.A.in1.in1 (wipe σ (own.map (·.2))) g w Q n s' →
      (∀ H' s'', Inv G' [] (wipe σ (own.map (·.2))) H' s'' → Inv X pins σ H' s'') → Qf (.ref ag) s') :
    wpAny (model X.prog X.w) X.A (eval (.GeneratorExp elt [⟨tg, iter, [], 0⟩] scope gpos) X.env) Qf X.xe s := by
  have hfree : ∀ y ∈ scope.names, y.2 = .free → ∃ c, X.env.cells.lookup y.1 = some c := fun y hy e => by
    rcases G.ok.free y hy e with k | k
    · exact I.ok.has _ (.inl k)
    · exact I.ok.has _ (.inr k)
  rw [eval_GeneratorExp1 _ _ _ _ _ _ _ G.co]
  refine wpAny_bind (wpAny_mono (G.it.run pins s σ H _ I h) (fun xv s1 h1 => ?_) fun _ _ z => z)
  refine wpAny_bind (wpAny_standAt ?_)
  refine wpAny_bind (wpAny_of_eq (G.fold xv) ?_)
  refine wpAny_bind (wpAny_holding (wpAny_mono h1 (fun itv s2 h2 => ?_) fun _ _ z => z))
  obtain ⟨it, fp, tn, J, H2, e, I2, T, st2, f2, tk2, q⟩ := h2
  subst e
  refine wpAny_bind (wpAny_enterFrame I2.nolimit hr ?_)
  refine wpAny_bind (wpAny_of_eq (closure_ok hfree) ?_)
  refine wpAny_bind (wpAny_mono (code_step (E := X.xe) I2 tk2 (hcode _ _ _ _ I2 tk2)) (fun cv s3 h3 => ?_) fun _ _ z => z)
  obtain ⟨H3, I3, cm⟩ := h3
  obtain ⟨n, W, w0, turn⟩ := q H3 cm.up cm.tk
  obtain ⟨bm, bo, b1, b2, b3, b4, b5, b6⟩ := hb
  refine wpAny_bind (wpAny_builtinsFor (m := X.mg) (by rw [I3.ok.glob]; exact I3.mod.glob.keeps I3.bk) b1 b2 (I3.bk _ _ b3) b4 b5 b6 ?_)
  have sz : ∀ b ∈ fp, b < s2.heap.objs.size := fun b hb => by
    obtain ⟨o, e, _⟩ := T.obj _ _ st2 b hb
    exact Heap.lt_size e
  have f3 : ∀ b ∈ fp, FpOk X pins H3 b ∧ b < s3.heap.objs.size := fun b hb =>
    ⟨⟨cm.none b (sz b hb) (f2 b hb).1, (f2 b hb).2⟩, Nat.lt_of_lt_of_le (sz b hb) cm.sz⟩
  have st3 : tn 0 s3.heap := T.keep _ _ _ st2 fun b hb o e => cm.keep b o (f2 b hb).1 e
  refine wpAny_bind (newEnv_gen G.ok.kind G.dot fun h' tk hns hsb => ?_)
  simp only [newGenerator, newFields]
  refine wpAny_bind (wpAny_newGen (wpAny_bind (wpAny_mkText (wpAny_bind (wpAny_mkText (wpAny_newObj_type ?_ (by size_fits)))))))
  have hzz : h'.objs.size = (pushCells (s3.heap.push { cls := .type "frame", data := .dict #[] }) scope.names).objs.size := hsb.1
  show Qf (.ref h'.objs.size) { s3 with
    heap := h'.push { cls := .type "generator", data := .fields #[.int s3.gens.size 0, .str "<genexpr>" tk, .str (X.env.qual ++ "<genexpr>") (tk + 1)] }
    gens := s3.gens.push (.fresh (.compStart (.GeneratorExp elt [⟨tg, iter, [], 0⟩] scope gpos) 0 (.ref it) .none (genEnv scope (cellsFrom (s3.heap.objs.size + 1) scope.names (cloFrom X.env.cells scope.names [])) s3.heap.objs.size cv builtinsNs X.env)))
    toks := tk + 1 + 1 }
  generalize hgo : ({ cls := .type "generator", data := .fields #[.int s3.gens.size 0, .str "<genexpr>" tk, .str (X.env.qual ++ "<genexpr>") (tk + 1)] } : Obj) = go
  generalize hce : genEnv scope (cellsFrom (s3.heap.objs.size + 1) scope.names (cloFrom X.env.cells scope.names [])) s3.heap.objs.size cv builtinsNs X.env = ce
  have hhg : (h'.push go).get? h'.objs.size = some go := by rw [← hgo]; exact Heap.get?_push_size _ rfl
  have I5 : Inv (genCx X s3 H3 scope ce fp [(h'.objs.size, go)]) [] (wipe σ (own.map (·.2))) H3
      { s3 with heap := h'.push go, gens := s3.gens.push (.fresh (.compStart (.GeneratorExp elt [⟨tg, iter, [], 0⟩] scope gpos) 0 (.ref it) .none ce)), toks := tk + 1 + 1 } := by
    subst hce
    exact gen_start I3 G.ok hN f3 rfl G.n0 (hns.push _) (fun b o nb e => Heap.get?_push_of_some _ (hsb.extBut b o nb e)) (AllBare.push I3.bare rfl) hhg (by rw [hzz]; exact Nat.le_refl _) (fun v z => by rw [← hgo] at z; cases z)
  have st5 : tn 0 (h'.push go) := T.keep _ _ _ st3 fun b hb o e => Heap.get?_push_of_some _ (hsb.extBut b o (Nat.ne_of_lt (f3 b hb).2) (pushCells_keeps _ _ _ _ (Heap.get?_push_of_some _ e)))
  have hdg : go.data = .fields #[.int s3.gens.size 0, .str "<genexpr>" tk, .str (X.env.qual ++ "<genexpr>") (tk + 1)] := by rw [← hgo]
  have hgs : (s3.gens.push (.fresh (.compStart (.GeneratorExp elt [⟨tg, iter, [], 0⟩] scope gpos) 0 (.ref it) .none ce)))[s3.gens.size]? = some (.fresh (.compStart (.GeneratorExp elt [⟨tg, iter, [], 0⟩] scope gpos) 0 (.ref it) .none ce)) := Array.getElem?_push_size ..
  have hgl : s3.gens.size < (s3.gens.push (.fresh (.compStart (.GeneratorExp elt [⟨tg, iter, [], 0⟩] scope gpos) 0 (.ref it) .none ce))).size := by rw [Array.size_push]; exact Nat.lt_succ_self _
  have pg := G.tg s3 H3 (cellsFrom (s3.heap.objs.size + 1) scope.names (cloFrom X.env.cells scope.names [])) s3.heap.objs.size cv fp [(h'.objs.size, go)] cm.code
  have pe := G.elt s3 H3 (cellsFrom (s3.heap.objs.size + 1) scope.names (cloFrom X.env.cells scope.names [])) s3.heap.objs.size cv fp [(h'.objs.size, go)] cm.code
  rw [hce] at pg pe
  have hsc : ce.scope = scope := by rw [← hce]; rfl
  refine hQ (genCx X s3 H3 scope ce fp [(h'.objs.size, go)]) h'.objs.size go _ _ s3.gens.size n _ rfl rfl (List.mem_singleton.mpr rfl) (by rw [← hgo]) hdg (by rw [← hgo]) ⟨H3, _, I5, hgl, hgs, rfl, ?_⟩ fun H' s'' I6 => ?_
  · refine gen_begin (G := genCx X s3 H3 scope ce fp [(h'.objs.size, go)]) over_genS over_genL hc (by show ce.scope.isCoroutine = false; rw [hsc]; exact G.co) rfl (fun p hp hm => ?_) rfl T pg pe turn _ _ H3 (inv_gens I5 rfl rfl (allBare_set I5.bare rfl)) st5 (fun b hb => (f3 b hb).1.1) w0 (by rw [GenW.setGen_size]; exact hgl)
    have hp : p = (h'.objs.size, go) := by simpa using hp
    subst hp
    have z := (f3 _ hm).2
    have z : h'.objs.size < s3.heap.objs.size := z
    have z2 := pushCells_size scope.names (s3.heap.push { cls := .type "frame", data := .dict #[] })
    rw [Heap.size_push] at z2
    omega
  · exact I3.call' (ch := fp) I6.os I6.base I6.hok I6.bare fun b hb => ⟨(f3 b hb).1.2.2.2.1, (f3 b hb).1.2.1, (f3 b hb).1.2.2.2.2.1, (f3 b hb).1.2.2.2.2.2⟩
omit [Tabs] in
theorem boot_all : bootBuiltins ("all" : Str) = some (.builtin "all") := by decide +kernel
theorem pe_all (hc : X.calm = true) (hN : X.N.Nodup) (hr : Room 1 X.A) (hcode : ∀ pins σ H s, Inv X pins σ H s → TkOk H → CodeH H s.heap X.env.code) (hb : BuiltAt X) (hg : Gl X "all") (hm : X.mg "all" = none) (G : GenP X elt tg iter scope own wi gt te)
    (he : starEach [.GeneratorExp elt [⟨tg, iter, [], 0⟩] scope gpos] X.env = (false, eval (.GeneratorExp elt [⟨tg, iter, [], 0⟩] scope gpos) X.env) :: starEach [] X.env := by rfl) :
    PE X (.Call (.Name "all" p) [.GeneratorExp elt [⟨tg, iter, [], 0⟩] scope gpos] [] pos) (tAA true wi gt te (own.map (·.2))) := by
  refine ⟨fun pins s σ H Q I h => ?_⟩
  refine wpAny_Call_Name_kw (ld_blt I hg hm boot_all ?_)
  refine PyProof.Rows.callWith_builtin1 ?_ he (by rfl)
  rw [he]
  show wpAny _ _ (spliced ((false, eval (.GeneratorExp elt [⟨tg, iter, [], 0⟩] scope gpos) X.env) :: backTo pos (starEach [] X.env))) _ _ s
  refine Calls.spliced_cons (gen_made hc hN hr.depth hcode hb G I h fun G' ag go nm qn g n s' ep ew hpin hcl hda hsl hs hback => ?_)
  refine Calls.spliced_nil ?_
  have hin : s'.heap.IsGen ag g := by
    obtain ⟨H', gs, I', _⟩ := hs
    exact ⟨go, nm, qn, (I'.pin (ag, go) (List.mem_append_left _ hpin)).1, hcl, hda, hsl⟩
  refine call_function_tree F.kind_all F.plain_all F.entry_all (F.args_all1 _) ?_
  unfold Builtin.«all»
  refine wpAny_bind (m := oneArg "all" _) (wpAny_pure ?_)
  refine wpAny_bind (wpAny_pyIter_gen hin ?_)
  rw [← ep, ← ew]
  exact wpAny_pure ⟨plainId_quiet F.plain_all_loop _, all_gen (G := G') (A := X.A) (Q := Q) hr.hd hr.depth hpin hcl hda hsl (fun s'' H' b I' q => ⟨.bl b, H', hback H' s'' I', rfl, q⟩) n s' hs⟩
theorem pe_any (hc : X.calm = true) (hN : X.N.Nodup) (hr : Room 1 X.A) (hcode : ∀ pins σ H s, Inv X pins σ H s → TkOk H → CodeH H s.heap X.env.code) (hb : BuiltAt X) (hg : Gl X "any") (hm : X.mg "any" = none) (G : GenP X elt tg iter scope own wi gt te)
    (he : starEach [.GeneratorExp elt [⟨tg, iter, [], 0⟩] scope gpos] X.env = (false, eval (.GeneratorExp elt [⟨tg, iter, [], 0⟩] scope gpos) X.env) :: starEach [] X.env := by rfl) :
    PE X (.Call (.Name "any" p) [.GeneratorExp elt [⟨tg, iter, [], 0⟩] scope gpos] [] pos) (tAA false wi gt te (own.map (·.2))) := by
  refine ⟨fun pins s σ H Q I h => ?_⟩
  refine wpAny_Call_Name_kw (ld_blt I hg hm boot_any ?_)
  refine PyProof.Rows.callWith_builtin1 ?_ he (by rfl)
  rw [he]
  show wpAny _ _ (spliced ((false, eval (.GeneratorExp elt [⟨tg, iter, [], 0⟩] scope gpos) X.env) :: backTo pos (starEach [] X.env))) _ _ s
  refine Calls.spliced_cons (gen_made hc hN hr.depth hcode hb G I h fun G' ag go nm qn g n s' ep ew hpin hcl hda hsl hs hback => ?_)
  refine Calls.spliced_nil ?_
  have hin : s'.heap.IsGen ag g := by
    obtain ⟨H', gs, I', _⟩ := hs
    exact ⟨go, nm, qn, (I'.pin (ag, go) (List.mem_append_left _ hpin)).1, hcl, hda, hsl⟩
  refine call_function_tree F.kind_any F.plain_any F.entry_any (F.args_any1 _) ?_
  unfold Builtin.«any»
  refine wpAny_bind (m := oneArg "any" _) (wpAny_pure ?_)
  refine wpAny_bind (wpAny_pyIter_gen hin ?_)
  rw [← ep, ← ew]
  exact wpAny_pure ⟨plainId_quiet F.plain_any_loop _, any_gen (G := G') (A := X.A) (Q := Q) hr.hd hr.depth hpin hcl hda hsl (fun s'' H' b I' q => ⟨.bl b, H', hback H' s'' I', rfl, q⟩) n s' hs⟩
end
end DL
namespace DL
open PySem PySem.Spec PyProof.Rows L2
variable [Tabs]

/-! ### any, all over data -/
theorem boolOf_ok {K : PySem.W.Frag} {S : Hp} {d : PyData} {v : V} {b : Bool} (h : boolOf d = some b) (r : Rp K S d v) : VB v b := by
  cases d <;> simp only [boolOf, Option.some.injEq] at h <;> try cases h
  · cases rp_bool r; exact .inl rfl
  · cases rp_int r; exact .inr ⟨_, rfl, rfl⟩
section
variable {w : Bool} {tg : Tg} {fe : Env → R PyData} {ρ : Env}
omit [Tabs] in
theorem aaGo_nil {r : Bool} (h : aaGo w tg fe ρ [] = .ok r) : r = w := by
  simp only [aaGo, R.ok.injEq] at h
  exact h.symm
omit [Tabs] in
theorem aaGo_cons {d : PyData} {ds : List PyData} {r : Bool} (h : aaGo w tg fe ρ (d :: ds) = .ok r) : ∃ ρ' y b, bindT tg d ρ = some ρ' ∧ fe ρ' = .ok y ∧ boolOf y = some b ∧ (b = w → aaGo w tg fe ρ ds = .ok r) ∧ (b ≠ w → r = !w) := by
  simp only [aaGo] at h
  cases e : bindT tg d ρ with
  | none => rw [e] at h; cases h
  | some ρ' =>
    rw [e] at h
    dsimp only at h
    cases e2 : fe ρ' with
    | ok y =>
      rw [e2] at h
      dsimp only at h
      cases e3 : boolOf y with
      | none => rw [e3] at h; cases h
      | some b =>
        rw [e3] at h
        dsimp only at h
        refine ⟨ρ', y, b, rfl, e2, e3, fun z => ?_, fun z => ?_⟩
        · rw [if_pos z] at h; exact h
        · rw [if_neg z] at h; cases h; rfl
    | ex c => rw [e2] at h; cases h
    | bad => rw [e2] at h; cases h
end
section
variable {X : Cx} {cl : Nat → Value} {W : WX} {elt tg iter : Expr} {scope : Scope} {pos gpos p : Pos}
/-- the turns, over data -/
theorem aa_turns {w : Bool} {t : Tg} {own : List Nat} {fe : Env → R PyData} {σ : St} {S H : Hp} {ρ : Env} {Q : VK} {J : It} {H1 S1 : Hp} {xs : List PyData} {r : Bool} (hσ : ∀ i ∈ own, i < σ.length) (hown : ∀ i ∈ t.all, i ∈ own)
    (hr : ShR X.K S σ ρ) (g1 : Grow H S H1 S1) (hJ : Yl X.K J S1 xs) (hgo : aaGo w t fe (wipeE ρ own) xs = .ok r) (hQ : ∀ v H' S', Grow H S H' S' → Rp X.K S' (.bool r) v → Q v H') :
    TkOk H1 ∧ ∀ H2, Up H1 H2 → TkOk H2 → ∃ (n : Nat) (Wv : Nat → Hp → Prop), Wv 0 H2 ∧ gTurn J (gT X.K t) (tD ⟨X.K, cl, noW⟩ fe) σ own n w Q Wv := by
  refine ⟨g1.in_.tk, fun H2 up tk => ?_⟩
  refine ⟨xs.length, fun i Hc => i ≤ xs.length ∧ ∃ Sc, Grow H S Hc Sc ∧ Sub S1 Sc ∧ aaGo w t fe (wipeE ρ own) (xs.drop i) = .ok r, ?_, fun i Hc ⟨hi, Sc, gc, h1c, hrest⟩ => ⟨fun e => ?_, fun hlt => ?_⟩⟩
  · exact ⟨Nat.zero_le _, S1, ⟨g1.h.trans up, g1.s, g1.in_.up up, g1.new⟩, Sub.refl _, hgo⟩
  · subst e
    rw [List.drop_length] at hrest
    have e := aaGo_nil hrest
    subst e
    exact ⟨hJ.stop Hc (h1c.trans gc.in_.sub), hQ _ _ _ gc (rpB _)⟩
  · refine ⟨hJ.go Hc i (h1c.trans gc.in_.sub) hlt, fun x H' hy => ?_⟩
    have hxi : xs[i]? = some xs[i] := List.getElem?_eq_getElem hlt
    rw [List.drop_eq_getElem_cons hlt] at hrest
    obtain ⟨S2, g2, hrx⟩ := hJ.yld Hc Sc i x H' xs[i] h1c gc.in_ hxi hy
    obtain ⟨ρ', y, b, hb, hfe, hby, hgo2, hend⟩ := aaGo_cons hrest
    have hrw : ShR X.K S2 (wipe σ own) (wipeE ρ own) := ((shr_wipe hr own).sub gc.s).sub g2.s
    refine gT_ok g2.in_ hrw (fun j hj => by rw [wipe_length]; exact hσ j (hown j hj)) hrx hb fun σ' hr' ⟨vs, eσ⟩ => ?_
    have wσ : wipe σ' own = wipe σ own := by
      rw [eσ, wipe_setAll hown]
      have : ∀ us : List Nat, (∀ u ∈ us, u ∈ own) → wipe (wipe σ us) own = wipe σ own := by
        intro us
        induction us with
        | nil => intro _; rfl
        | cons u us ih =>
          intro hu
          show wipe ((wipe σ us).set u none) own = _
          rw [wipe_set (hu u List.mem_cons_self), ih fun v hv => hu v (List.mem_cons_of_mem _ hv)]
      exact this own fun _ h => h
    refine ⟨wσ, S2, ρ', g2.in_, hr', ?_⟩
    rw [hfe]
    intro v H4 S4 g4 q4
    have gall : Grow H S H4 S4 := (gc.trans g2).trans g4
    refine ⟨b, boolOf_ok hby q4, fun e => ⟨hlt, S4, gall, h1c.trans (g2.s.trans g4.s), hgo2 e⟩, fun e => ?_⟩
    have er := hend e
    subst er
    exact hQ _ _ _ gall (rpB _)
/-- the parts of a generator expression, over data -/
structure GenD (X : Cx) (cl : Nat → Value) (W : WX) (elt tg iter : Expr) (scope : Scope) (own : List (Str × Nat)) (t : Tg) (fi fe : Env → R PyData) : Prop where
  it : SndI X cl W tg iter fi
  ok : BlkOk X.N X.env.scope scope own
  co : scope.isCoroutine = false
  dot : scope.names.lookup (".0" : Str) = some NameKind.local
  n0 : (".0" : Str) ∉ X.N
  tg : ∀ (s : Shared) (H : Hp) (c : List (Str × Addr)) (C : Addr) (cv : Value) (fp : List Addr) (pn : List (Addr × Obj)), CodeN H cv → PG (genCx X s H scope (genEnv scope c C cv builtinsNs X.env) fp pn) tg (gT X.K t)
  elt : ∀ (s : Shared) (H : Hp) (c : List (Str × Addr)) (C : Addr) (cv : Value) (fp : List Addr) (pn : List (Addr × Obj)), CodeN H cv → PE (genCx X s H scope (genEnv scope c C cv builtinsNs X.env) fp pn) elt (tD ⟨X.K, cl, noW⟩ fe)
  ix : ∀ i ∈ own.map (·.2), i < X.N.length
  all : ∀ i ∈ t.all, i ∈ own.map (·.2)
  fold : ∀ v, genFold iter X.env v = pure v
theorem aa_read {w : Bool} {own : List Nat} {t : Tg} {fi fe : Env → R PyData} {σ : St} {H : Hp} {Q : VK} (hσ : ∀ i ∈ own, i < σ.length) (hown : ∀ i ∈ t.all, i ∈ own)
    (h : tD (wh X cl W) (aaD w own t fi fe) σ H Q) : tAA w (tDI (wh X cl W) fi) (gT X.K t) (tD ⟨X.K, cl, noW⟩ fe) own σ H Q := by
  obtain ⟨S, ρ, hS, hr, h⟩ := h
  unfold aaD at h
  rw [post_bind] at h
  refine ⟨S, ρ, hS, hr, post_mono h (fun d p => ?_) fun _ z => z⟩
  cases d <;> try exact p.elim
  rename_i xs
  dsimp only at p ⊢
  intro J H1 S1 g1 hJ
  cases hgo : aaGo w t fe (wipeE ρ own) xs with
  | ok b =>
    rw [hgo] at p
    exact aa_turns (X := X) (cl := cl) hσ hown hr g1 hJ hgo p
  | ex c => rw [hgo] at p; exact p.elim
  | bad => rw [hgo] at p; exact p.elim
def aaNm (w : Bool) : Str := if w then "all" else "any"
theorem snd_gen {w : Bool} {own : List (Str × Nat)} {t : Tg} {fi fe : Env → R PyData} (hc : X.calm = true) (hN : X.N.Nodup) (hr : Room 1 X.A) (hcode : ∀ pins σ H s, Inv X pins σ H s → TkOk H → CodeH H s.heap X.env.code) (hb : BuiltAt X) (hg : Gl X (aaNm w)) (hm : X.mg (aaNm w) = none)
    (G : GenD X cl W elt tg iter scope own t fi fe) : Snd X cl W (.Call (.Name (aaNm w) p) [.GeneratorExp elt [⟨tg, iter, [], 0⟩] scope gpos] [] pos) (aaD w (own.map (·.2)) t fi fe) := by
  have G' : GenP X elt tg iter scope own (tDI (wh X cl W) fi) (gT X.K t) (tD ⟨X.K, cl, noW⟩ fe) := ⟨G.it, G.ok, G.co, G.dot, G.n0, G.tg, G.elt, G.fold⟩
  refine Snd.of ?_ rfl
  cases w with
  | true => exact pe_impL (pe_all hc hN hr hcode hb hg hm G') fun σ H Q hl q => aa_read (X := X) (cl := cl) (W := W) (fun i hi => by rw [hl]; exact G.ix i hi) G.all q
  | false => exact pe_impL (pe_any hc hN hr hcode hb hg hm G') fun σ H Q hl q => aa_read (X := X) (cl := cl) (W := W) (fun i hi => by rw [hl]; exact G.ix i hi) G.all q
end
end DL
namespace DL
open PySem PySem.Spec PyProof.Rows L2

/-! ### the tables of a program -/
structure FnI where
  nm : Str
  ps : List Str
  dfl : List PyData
structure Tab where
  fns : List FnI
  gls : List (Str × PyData)
  exs : List Str
  bls : List Str
  /-- how deep generator expressions may stand within one another -/
  gn : Nat
  /-- may they stand in a list comprehension's block? -/
  gb : Bool
def Tab.bgn (T : Tab) : Nat := if T.gb then T.gn else 0
/-- the defaults that fill up n written arguments -/
def padOf (f : FnI) (n : Nat) : List PyData := f.dfl.drop (f.dfl.length - (f.ps.length - n))
mutual
def sameD (a b : PyData) : Bool := match a, b with
  | .none, .none => true
  | .bool x, .bool y => x == y
  | .int x, .int y => decide (x = y)
  | .str x, .str y => decide (x = y)
  | .tuple xs, .tuple ys => sameDs xs ys
  | _, _ => false
termination_by structural a
def sameDs (a b : List PyData) : Bool := match a, b with
  | [], [] => true
  | x :: xs, y :: ys => sameD x y && sameDs xs ys
  | _, _ => false
termination_by structural a
end
mutual
theorem sameD_ok : ∀ (a b : PyData), sameD a b = true → a = b
  | .none, b, h => by cases b <;> simp [sameD] at h ⊢
  | .bool x, b, h => by cases b <;> simp [sameD] at h ⊢; exact h
  | .int x, b, h => by cases b <;> simp [sameD] at h ⊢; exact h
  | .str x, b, h => by cases b <;> simp [sameD] at h ⊢; exact h
  | .tuple xs, b, h => by
    cases b with
    | tuple ys =>
      simp only [sameD] at h
      rw [sameDs_ok xs ys h]
    | _ => simp [sameD] at h
  | .list xs, b, h => by simp [sameD] at h
  | .dict xs, b, h => by simp [sameD] at h
theorem sameDs_ok : ∀ (a b : List PyData), sameDs a b = true → a = b
  | [], b, h => by cases b <;> simp [sameDs] at h ⊢
  | x :: xs, b, h => by
    cases b with
    | nil => simp [sameDs] at h
    | cons y ys =>
      simp only [sameDs, Bool.and_eq_true] at h
      rw [sameD_ok x y h.1, sameDs_ok xs ys h.2]
end

/-! ### does the reading fit the text? -/
inductive Syn where
  | e (x : Expr) | es (xs : List Expr) | op (o : Option Expr) | it (tg x : Expr) | bo (op : BoolOp) (xs : List Expr)
def visB (sc : Scope) (x : Str) : Bool := match sc.names.lookup x with
  | some .local => true
  | some .cell => true
  | some .free => true
  | _ => false
def locB (sc : Scope) (x : Str) : Bool := match sc.names.lookup x with
  | some .local => true
  | some .cell => true
  | _ => false
def glB (sc : Scope) (x : Str) : Bool := decide (sc.names.lookup x = some .globalImplicit)
def okN (x : Str) : Bool := !(x == ("__debug__" : Str)) && !(x == ("__classdict__" : Str))
/-- a target's names in a block's own scope -/
def chkT (N : List Str) (sc : Scope) (t : Tg) (x : Expr) : Bool := match t, x with
  | .one i, .Name y _ => decide (N[i]? = some y) && locB sc y
  | .many is, .Tuple xs _ _ => (match namesOf xs with
    | some ys => ixAll N ys is && decide (is.length = xs.length) && ys.all (locB sc)
    | none => false)
  | _, _ => false
def isLit : IE → Bool
  | .bl b => b
  | _ => false
def notSet : Expr → Bool
  | .Set _ _ _ => false
  | _ => true
def notSetL : Expr → Bool
  | .Set _ _ _ => false
  | .List _ _ => false
  | _ => true
def tyNm (x : Str) (T : String) : Bool := (decide (x = "int") && decide (T = "int")) || (decide (x = "bool") && decide (T = "bool")) || (decide (x = "tuple") && decide (T = "tuple")) || (decide (x = "str") && decide (T = "str")) || (decide (x = "list") && decide (T = "list"))

def chk (T : Tab) (N : List Str) (ir : IE) (sc : Scope) (s : Syn) : Bool := match ir with
  | .var i => (match s with
    | .e (.Name y _) => decide (N[i]? = some y) && visB sc y && okN y
    | _ => false)
  | .int i => (match s with
    | .e (.Constant (.int j) _ _) => decide (i = j)
    | _ => false)
  | .bl i => (match s with
    | .e (.Constant (.bool j) _ _) => i == j
    | _ => false)
  | .non => (match s with
    | .e (.Constant .none _ _) => true
    | _ => false)
  | .str i => (match s with
    | .e (.Constant (.str j) _ _) => decide (i = j)
    | _ => false)
  | .glob j d => (match s with
    | .e (.Name y _) => glB sc y && okN y && (match T.gls[j]? with
      | some (z, d') => decide (z = y) && sameD d d'
      | none => false)
    | _ => false)
  | .bin o a b => (match s with
    | .e (.BinOp x op y _) => decide (op = o.op) && chk T N a sc (.e x) && chk T N b sc (.e y)
    | _ => false)
  | .neg a => (match s with
    | .e (.UnaryOp .USub x _) => chk T N a sc (.e x)
    | _ => false)
  | .cmp o a b => (match s with
    | .e (.Compare x [op] [y] _) => decide (op = o.op) && !behindInMarks op y && chk T N a sc (.e x) && chk T N b sc (.e y)
    | _ => false)
  | .chain o o' a b c => (match s with
    | .e (.Compare x [op, op'] [y, z] _) => decide (op = o.op) && decide (op' = o'.op) && !lastMarks [op, op'] [y, z] && !behindInMarks op y && !behindInMarks op' z && chk T N a sc (.e x) && chk T N b sc (.e y) && chk T N c sc (.e z)
    | _ => false)
  | .not a => (match s with
    | .e (.UnaryOp .Not x _) => chk T N a sc (.e x)
    | _ => false)
  | .and a b => (match s with
    | .e (.BoolOp .And (x :: y :: r) _) => chk T N a sc (.e x) && chk T N b sc (.bo .And (y :: r))
    | .bo .And (x :: y :: r) => chk T N a sc (.e x) && chk T N b sc (.bo .And (y :: r))
    | _ => false)
  | .or a b => (match s with
    | .e (.BoolOp .Or (x :: y :: r) _) => chk T N a sc (.e x) && chk T N b sc (.bo .Or (y :: r))
    | .bo .Or (x :: y :: r) => chk T N a sc (.e x) && chk T N b sc (.bo .Or (y :: r))
    | _ => false)
  | .one a => (match s with
    | .bo _ [x] => chk T N a sc (.e x)
    | _ => false)
  | .ite c a b => (match s with
    | .e (.IfExp x y z _) => chk T N c sc (.e x) && chk T N a sc (.e y) && chk T N b sc (.e z)
    | _ => false)
  | .tup es => (match s with
    | .e (.Tuple xs _ _) => Nat.ble xs.length big && chk T N es sc (.es xs)
    | _ => false)
  | .lst es => (match s with
    | .e (.List xs _) => Nat.ble xs.length big && chk T N es sc (.es xs)
    | _ => false)
  | .sub a i => (match s with
    | .e (.Subscript x y _) => plainIx y && chk T N a sc (.e x) && chk T N i sc (.e y)
    | _ => false)
  | .slice a lo hi => (match s with
    | .e (.Subscript x (.Slice l h none _) _) => chk T N a sc (.e x) && chk T N lo sc (.op l) && chk T N hi sc (.op h)
    | _ => false)
  | .rev a => (match s with
    | .e (.Subscript x (.Slice none none (some (.UnaryOp .USub (.Constant (.int i) _ _) _)) _) _) => decide (i = 1) && chk T N a sc (.e x)
    | _ => false)
  | .call j es => (match s with
    | .e (.Call (.Name y _) (x :: xs) [] _) => glB sc y && okN y && (match T.fns[j]? with
      | some f => decide (f.nm = y) && Nat.ble (x :: xs).length f.ps.length && Nat.ble (f.ps.length - (x :: xs).length) f.dfl.length
      | none => false) && chk T N es sc (.es (x :: xs))
    | _ => false)
  | .blt b es => (match s with
    | .e (.Call (.Name y _) (x :: xs) [] _) => decide (y = b.nm) && glB sc y && T.bls.contains y && chk T N es sc (.es (x :: xs))
    | _ => false)
  | .isi a Ty => (match s with
    | .e (.Call (.Name y _) [x, .Name z _] [] _) => decide (y = "isinstance") && glB sc y && T.bls.contains y && glB sc z && T.bls.contains z && tyNm z Ty && notStar x && chk T N a sc (.e x)
    | _ => false)
  | .lc own own' t it cond elt => (match s with
    | .e (.ListComp x [⟨tg, iter, ifs, asy⟩] scope _) => decide (asy = 0) && blkC N sc scope own' && decide (own = own'.map (·.2)) && own.all (fun i => decide (i < N.length)) && t.all.all (fun i => own.contains i) && chkT N scope t tg && notSet iter &&
      (match scope.kind with
        | .function => true
        | _ => false) && chk T N it sc (.it tg iter) &&
      (match ifs with
        | [] => isLit cond
        | [c] => chk { T with gn := T.bgn } N cond (relS scope sc) (.e c)
        | _ => false) && chk { T with gn := T.bgn } N elt (relS scope sc) (.e x)
    | _ => false)
  | .enil => (match s with
    | .es [] => true
    | _ => false)
  | .econs h t => (match s with
    | .es (x :: xs) => notStar x && chk T N h sc (.e x) && chk T N t sc (.es xs)
    | _ => false)
  | .nopart => (match s with
    | .op none => true
    | _ => false)
  | .part a => (match s with
    | .op (some x) => chk T N a sc (.e x)
    | _ => false)
  | .iseq a => (match s with
    | .it _ x => chk T N a sc (.e x)
    | _ => false)
  | .ir1 a => (match s with
    | .it _ (.Call (.Name y _) [x] [] _) => decide (y = "range") && glB sc y && T.bls.contains y && notStar x && chk T N a sc (.e x)
    | _ => false)
  | .ir2 a b => (match s with
    | .it _ (.Call (.Name y _) [x, z] [] _) => decide (y = "range") && glB sc y && T.bls.contains y && notStar x && notStar z && chk T N a sc (.e x) && chk T N b sc (.e z)
    | _ => false)
  | .ienum a => (match s with
    | .it (.Tuple _ _ _) (.Call (.Name y _) [x] [] _) => decide (y = "enumerate") && glB sc y && T.bls.contains y && notStar x && chk T N a sc (.e x)
    | _ => false)
  | .irev a => (match s with
    | .it _ (.Call (.Name y _) [x] [] _) => decide (y = "reversed") && glB sc y && T.bls.contains y && notStar x && chk T N a sc (.e x)
    | _ => false)
  | .izip a b => (match s with
    | .it (.Tuple _ _ _) (.Call (.Name y _) [x, z] [] _) => decide (y = "zip") && glB sc y && T.bls.contains y && notStar x && notStar z && chk T N a sc (.e x) && chk T N b sc (.e z)
    | _ => false)
  | .ir3 a b c => (match s with
    | .it _ (.Call (.Name y _) [x, z, w] [] _) => decide (y = "range") && glB sc y && T.bls.contains y && notStar x && notStar z && notStar w && chk T N a sc (.e x) && chk T N b sc (.e z) && chk T N c sc (.e w)
    | _ => false)
  | .gen w own own' t it elt => (match s with
    | .e (.Call (.Name y _) [.GeneratorExp x [⟨tg, iter, ifs, asy⟩] scope _] [] _) => decide (y = aaNm w) && glB sc y && T.bls.contains y && decide (T.gn ≠ 0) && ifs.isEmpty && decide (asy = 0) && blkC N sc scope own' && decide (own = own'.map (·.2)) &&
      own.all (fun i => decide (i < N.length)) && t.all.all (fun i => own.contains i) && chkT N scope t tg && notSetL iter && !scope.isCoroutine && decide (scope.names.lookup (".0" : Str) = some NameKind.local) && !(N.contains (".0" : Str)) &&
      chk T N it sc (.it tg iter) && chk { T with gn := T.gn - 1, gb := false } N elt scope (.e x)
    | _ => false)
termination_by structural ir

variable [Tabs]
/-- a place in the run of a body -/
structure At (T : Tab) (N : List Str) (cl : Nat → Value) (run : Nat → List PyData → R PyData) (X : Cx) (sc : Scope) (W : WX) : Prop where
  calm : X.calm = true
  nd : X.N.Nodup
  N : X.N = N
  scope : X.env.scope = sc
  hu : X.A.units + 64 < cLine
  tk : Takes X W
  fns : ∀ (j : Nat) (f : FnI), T.fns[j]? = some f → ∃ (k : Nat) (g : Addr) (fd : FuncData), Room (k + T.gn) X.A ∧ X.mg f.nm = some (.ref g) ∧ PySem.W.keepIn X.K (.ref g) = true ∧ FnOk X.prog X.w X.K X.mg X.base (L2.CX X.prog X.w) k g fd f.ps (spD X.K cl (run j) f.ps.length) ∧
    ∀ n, n ≤ f.ps.length → f.ps.length - n ≤ f.dfl.length → ∃ dvs ds, Vals dvs ds ∧ (∀ S, RpA X.K S (padOf f n) dvs) ∧ Binds X.K fd f.ps ds
  gls : ∀ (j : Nat) (x : Str) (d : PyData), T.gls[j]? = some (x, d) → ∃ v u, X.mg x = some u ∧ RelV v u ∧ ∀ S, Rp X.K S d v
  bls : ∀ x ∈ T.bls, X.mg x = none
  rm : Room T.gn X.A
  built : T.gn ≠ 0 → BuiltAt X
  code : T.gn ≠ 0 → ∀ pn xe pins σ H s, Inv (X.tr pn xe) pins σ H s → TkOk H → CodeH H s.heap X.env.code
  codeB : T.gb = true → T.gn ≠ 0 → ∃ c P, X.env.code = .ref c ∧ PySem.W.CodeHd X.base c P ∧ P ∈ Tabs.cs
/-- calls give what the defs give of all their arguments -/
def CallOk (T : Tab) (call run : Nat → List PyData → R PyData) : Prop := ∀ (j : Nat) (f : FnI) (xs : List PyData), T.fns[j]? = some f → call j xs = run j (xs ++ padOf f xs.length)

theorem Tab.bgn_le (T : Tab) : T.bgn ≤ T.gn := by unfold Tab.bgn; split <;> omega
theorem Tab.bgn_of {T : Tab} (h : T.bgn ≠ 0) : T.gb = true ∧ T.gn ≠ 0 := by
  unfold Tab.bgn at h
  by_cases c : T.gb = true
  · rw [if_pos c] at h; exact ⟨c, h⟩
  · rw [if_neg c] at h; exact absurd rfl h
theorem At.blk {T : Tab} {N : List Str} {cl : Nat → Value} {run : Nat → List PyData → R PyData} {X : Cx} {sc : Scope} {W : WX} (h : At T N cl run X sc W) (scope : Scope) (s : Shared) (H : Hp) (C : Addr) (c : List (Str × Addr)) (fp : List Addr) :
    At { T with gn := T.bgn } N cl run (X.blk s H scope (compEnvC scope c C X.env) fp) (relS scope sc) noW where
  calm := h.calm
  nd := h.nd
  N := h.N
  scope := by rw [← h.scope]; rfl
  hu := h.hu
  tk := takes0
  fns := fun j f e => by
    obtain ⟨k, g, fd, r, q⟩ := h.fns j f e
    exact ⟨k, g, fd, r.mono (Nat.add_le_add_left T.bgn_le k), q⟩
  gls := h.gls
  bls := h.bls
  rm := h.rm.mono T.bgn_le
  built := fun n => h.built (Tab.bgn_of n).2
  code := fun n pn' xe' pins σ' H' s' I t => by
    obtain ⟨hb, hn⟩ := Tab.bgn_of n
    obtain ⟨c0, P, e1, e2, e3⟩ := h.codeB hb hn
    obtain ⟨ps, e4⟩ := t.cs P e3
    exact ⟨c0, P, ps, e1, e2.keeps I.bk, e4⟩
  codeB := fun hb n => h.codeB hb (Tab.bgn_of n).2
theorem At.gen {T : Tab} {N : List Str} {cl : Nat → Value} {run : Nat → List PyData → R PyData} {X : Cx} {sc : Scope} {W : WX} (h : At T N cl run X sc W) (hn : T.gn ≠ 0) (scope : Scope) (s : Shared) (H : Hp) (c : List (Str × Addr)) (C : Addr) (cv : Value) (fp : List Addr) (pn : List (Addr × Obj)) (hc : CodeN H cv) :
    At { T with gn := T.gn - 1, gb := false } N cl run (genCx X s H scope (genEnv scope c C cv builtinsNs X.env) fp pn) scope noW := by
  have rg : ∀ {k : Nat}, Room (k + 1) X.A → Room k ((X.A.in1.in1).deeper (genEnv scope c C cv builtinsNs X.env)) := fun {k} r => ⟨r.hd, by have := r.dp; show X.A.depth + 1 + 3 * k + 5 < _; omega, by have := r.un; show X.A.units + 1 + 1 + 3 + 16 * k + 200 < _; omega⟩
  have r0 : Room (T.gn - 1) ((X.A.in1.in1).deeper (genEnv scope c C cv builtinsNs X.env)) := rg (h.rm.mono (by omega))
  exact {
    calm := h.calm
    nd := h.nd
    N := h.N
    scope := rfl
    hu := r0.units
    tk := takes0
    fns := fun j f e => by
      obtain ⟨k, g, fd, r, q⟩ := h.fns j f e
      exact ⟨k, g, fd, rg (r.mono (by show k + (T.gn - 1) + 1 ≤ _; omega)), q⟩
    gls := h.gls
    bls := h.bls
    rm := r0
    built := fun n => h.built hn
    code := fun n pn' xe' pins σ' H' s' I t => by
      obtain ⟨a, o, P', ps', e1, e2, e3, e4, e5⟩ := hc
      have q1 := I.base.frzs a o _ e2
      obtain ⟨more, q2⟩ := I.base.tbls P' ps' e5
      exact ⟨a, P', _, e1, e3.hd (I.hok a _ q1).1 e4, q2⟩
    codeB := fun hb n => by cases hb }

structure Good (T : Tab) (N : List Str) (cl : Nat → Value) (call : Nat → List PyData → R PyData) (ir : IE) (X : Cx) (sc : Scope) (W : WX) : Prop where
  e : ∀ x, chk T N ir sc (.e x) = true → Snd X cl W x (ev call ir)
  es : ∀ xs, chk T N ir sc (.es xs) = true → SndA X cl W xs (ev call ir) ∧ (∀ ρ d, ev call ir ρ = .ok d → ∃ ds, d = .tuple ds ∧ ds.length = xs.length) ∧ xs.all notStar = true
  op : ∀ o, chk T N ir sc (.op o) = true → SndO X cl W o (ev call ir)
  it : ∀ tg x, chk T N ir sc (.it tg x) = true → SndI X cl W tg x (ev call ir)
  bo : ∀ op xs pos, chk T N ir sc (.bo op xs) = true → SndB X cl W op xs pos (ev call ir)
  lc : ∀ x gs scope pos, chk T N ir sc (.e (.ListComp x gs scope pos)) = true → ∃ tg iter ifs own t fi fc fe, gs = [⟨tg, iter, ifs, 0⟩] ∧ LcP X cl W x tg iter ifs scope own t fi fc fe ∧ ev call ir = lcD (own.map (·.2)) t fi fc fe
end DL
namespace DL
open PySem PySem.Spec PyProof.Rows L2
variable [Tabs]
section
variable {T : Tab} {N : List Str} {cl : Nat → Value} {call run : Nat → List PyData → R PyData} {X : Cx} {sc : Scope} {W : WX} {ir : IE}
theorem Good.ofE (he : ∀ x, chk T N ir sc (.e x) = true → Snd X cl W x (ev call ir)) (h2 : ∀ s, (∀ x, s ≠ .e x) → chk T N ir sc s = false) (h3 : ∀ x gs scope pos, chk T N ir sc (.e (.ListComp x gs scope pos)) = false := by intros; simp only [chk]) : Good T N cl call ir X sc W where
  lc := fun x gs scope pos h => by rw [h3] at h; cases h
  e := he
  es := fun xs h => by rw [h2 _ (fun x z => by cases z)] at h; cases h
  op := fun xs h => by rw [h2 _ (fun x z => by cases z)] at h; cases h
  it := fun tg xs h => by rw [h2 _ (fun x z => by cases z)] at h; cases h
  bo := fun op xs pos h => by rw [h2 _ (fun x z => by cases z)] at h; cases h
theorem Good.ofI (he : ∀ tg x, chk T N ir sc (.it tg x) = true → SndI X cl W tg x (ev call ir)) (h2 : ∀ s, (∀ tg x, s ≠ .it tg x) → chk T N ir sc s = false) : Good T N cl call ir X sc W where
  lc := fun xs gs scope pos h => by rw [h2 _ (fun tg x z => by cases z)] at h; cases h
  e := fun xs h => by rw [h2 _ (fun tg x z => by cases z)] at h; cases h
  es := fun xs h => by rw [h2 _ (fun tg x z => by cases z)] at h; cases h
  op := fun xs h => by rw [h2 _ (fun tg x z => by cases z)] at h; cases h
  it := he
  bo := fun op xs pos h => by rw [h2 _ (fun tg x z => by cases z)] at h; cases h
theorem visB_ok {x : Str} (h : visB sc x = true) (e : X.env.scope = sc) : Vis X.env.scope x := by
  unfold visB at h
  rw [e]
  unfold Vis
  split at h <;> first | exact .inl (by assumption) | exact .inr (.inl (by assumption)) | exact .inr (.inr (by assumption)) | cases h
theorem glB_ok {x : Str} (h : glB sc x = true) (e : X.env.scope = sc) : Gl X x := by
  unfold glB at h
  show X.env.scope.names.lookup x = _
  rw [e]
  exact of_decide_eq_true h
theorem okN_ok {x : Str} (h : okN x = true) : (x == ("__debug__" : Str)) = false ∧ (x == ("__classdict__" : Str)) = false := by
  unfold okN at h
  simp only [Bool.and_eq_true, Bool.not_eq_true'] at h
  exact h
theorem bls_ok {x : Str} (hA : At T N cl run X sc W) (h : T.bls.contains x = true) : X.mg x = none := hA.bls x (by simpa using h)
theorem tyNm_ok {x : Str} {Ty : String} (h : tyNm x Ty = true) : bootBuiltins x = some (.type Ty) ∧ x ≠ "__name__" ∧ (x == ("__debug__" : Str)) = false := by
  unfold tyNm at h
  simp only [Bool.or_eq_true, Bool.and_eq_true, decide_eq_true_eq] at h
  rcases h with (((⟨rfl, rfl⟩ | ⟨rfl, rfl⟩) | ⟨rfl, rfl⟩) | ⟨rfl, rfl⟩) | ⟨rfl, rfl⟩ <;> exact ⟨by decide +kernel, by decide, by decide⟩
theorem isLit_ok {c : IE} (h : isLit c = true) : ev call c = fun _ => .ok (.bool true) := by
  cases c <;> simp [isLit] at h
  subst h
  funext ρ
  simp only [ev]
theorem notSet_ok {e : Expr} {env : PySem.Env} (h : notSet e = true) : ∀ x, foldedSetIterable e env x = pure x := by
  intro x
  cases e <;> first | rfl | (simp [notSet] at h; done)

theorem chkT_ok {sc' : Scope} (hc : X.calm = true) (nd : X.N.Nodup) (hN : X.N = N) (fnl : ∀ y, locB sc' y = true → Loc X.env.scope y ∧ (X.fn y = true ∨ X.env.scope.names.lookup y = some .local)) :
    ∀ (t : Tg) (x : Expr), chkT N sc' t x = true → PG X x (gT X.K t)
  | .one i, x, h => by
    cases x <;> simp only [chkT] at h <;> first | (exact absurd h Bool.false_ne_true) | skip
    simp only [Bool.and_eq_true, decide_eq_true_eq] at h
    obtain ⟨l1, l2⟩ := fnl _ h.2
    exact pg_oneT nd (by rw [hN]; exact h.1) l1 l2
  | .many is, x, h => by
    cases x <;> simp only [chkT] at h <;> first | (exact absurd h Bool.false_ne_true) | skip
    rename_i xs k p
    cases hn : namesOf xs with
    | none => rw [hn] at h; exact absurd h Bool.false_ne_true
    | some ys =>
      rw [hn] at h
      simp only [Bool.and_eq_true, decide_eq_true_eq, List.all_eq_true] at h
      exact pg_many hc nd hn (by rw [hN]; exact h.1.1) h.1.2 fun y hy => fnl y (h.2 y hy)
theorem sound' : ∀ (ir : IE) (T : Tab) (hC : CallOk T call run) (X : Cx) (sc : Scope) (W : WX), At T N cl run X sc W → Good T N cl call ir X sc W := by
  intro ir
  induction ir with
  | var i =>
    intro T hC X sc W hA
    refine Good.ofE (fun x h => ?_) fun s hs => by cases s <;> first | exact absurd rfl (hs _) | simp only [chk]
    simp only [chk] at h
    split at h
    · rename_i y p heq
      cases heq
      simp only [Bool.and_eq_true, decide_eq_true_eq] at h
      obtain ⟨h1, h2⟩ := okN_ok h.2
      exact snd_var (by rw [hA.N]; exact h.1.1) (visB_ok h.1.2 hA.scope) h1 h2
    · cases h
  | int i =>
    intro T hC X sc W hA
    refine Good.ofE (fun x h => ?_) fun s hs => by cases s <;> first | exact absurd rfl (hs _) | simp only [chk]
    simp only [chk] at h
    split at h
    · rename_i heq
      cases heq
      have e := of_decide_eq_true h
      subst e
      exact snd_int
    · cases h
  | bl i =>
    intro T hC X sc W hA
    refine Good.ofE (fun x h => ?_) fun s hs => by cases s <;> first | exact absurd rfl (hs _) | simp only [chk]
    simp only [chk] at h
    split at h
    · rename_i heq
      cases heq
      have e := eq_of_beq h
      subst e
      exact snd_bl
    · cases h
  | non =>
    intro T hC X sc W hA
    refine Good.ofE (fun x h => ?_) fun s hs => by cases s <;> first | exact absurd rfl (hs _) | simp only [chk]
    simp only [chk] at h
    split at h
    · rename_i heq
      cases heq
      exact snd_non
    · cases h
  | str i =>
    intro T hC X sc W hA
    refine Good.ofE (fun x h => ?_) fun s hs => by cases s <;> first | exact absurd rfl (hs _) | simp only [chk]
    simp only [chk] at h
    split at h
    · rename_i heq
      cases heq
      have e := of_decide_eq_true h
      subst e
      exact snd_str
    · cases h
  | glob j d =>
    intro T hC X sc W hA
    refine Good.ofE (fun x h => ?_) fun s hs => by cases s <;> first | exact absurd rfl (hs _) | simp only [chk]
    simp only [chk] at h
    split at h
    · rename_i y p heq
      cases heq
      simp only [Bool.and_eq_true] at h
      obtain ⟨⟨hg, hn⟩, h⟩ := h
      cases hq : T.gls[j]? with
      | none => rw [hq] at h; cases h
      | some z =>
        obtain ⟨z, d'⟩ := z
        rw [hq] at h
        simp only [Bool.and_eq_true, decide_eq_true_eq] at h
        obtain ⟨e1, e2⟩ := h
        have e3 := sameD_ok _ _ e2
        subst e1 e3
        obtain ⟨v, u, h1, h2, h3⟩ := hA.gls j _ _ hq
        exact snd_glob (glB_ok hg hA.scope) h1 h2 h3 (okN_ok hn).1
    · cases h
  | bin o a b iha ihb =>
    intro T hC X sc W hA
    refine Good.ofE (fun x h => ?_) fun s hs => by cases s <;> first | exact absurd rfl (hs _) | simp only [chk]
    simp only [chk] at h
    split at h
    · rename_i heq
      cases heq
      simp only [Bool.and_eq_true, decide_eq_true_eq] at h
      obtain ⟨⟨e, h1⟩, h2⟩ := h
      subst e
      exact (snd_bin ((iha T hC X sc W hA).e _ h1) ((ihb T hC X sc W hA).e _ h2)).imp (by funext ρ; simp only [ev])
    · cases h
  | neg a iha =>
    intro T hC X sc W hA
    refine Good.ofE (fun x h => ?_) fun s hs => by cases s <;> first | exact absurd rfl (hs _) | simp only [chk]
    simp only [chk] at h
    split at h
    · rename_i heq
      cases heq
      exact (snd_neg ((iha T hC X sc W hA).e _ h)).imp (by funext ρ; simp only [ev])
    · cases h
  | cmp o a b iha ihb =>
    intro T hC X sc W hA
    refine Good.ofE (fun x h => ?_) fun s hs => by cases s <;> first | exact absurd rfl (hs _) | simp only [chk]
    simp only [chk] at h
    split at h
    · rename_i heq
      cases heq
      simp only [Bool.and_eq_true, decide_eq_true_eq, Bool.not_eq_true'] at h
      obtain ⟨⟨⟨e, h0⟩, h1⟩, h2⟩ := h
      subst e
      exact (snd_cmp hA.hu ((iha T hC X sc W hA).e _ h1) ((ihb T hC X sc W hA).e _ h2) h0).imp (by funext ρ; simp only [ev])
    · cases h
  | chain o o' a b c iha ihb ihc =>
    intro T hC X sc W hA
    refine Good.ofE (fun x h => ?_) fun s hs => by cases s <;> first | exact absurd rfl (hs _) | simp only [chk]
    simp only [chk] at h
    split at h
    · rename_i heq
      cases heq
      simp only [Bool.and_eq_true, decide_eq_true_eq, Bool.not_eq_true'] at h
      obtain ⟨⟨⟨⟨⟨⟨⟨e, e'⟩, hl⟩, h0⟩, h0'⟩, h1⟩, h2⟩, h3⟩ := h
      subst e e'
      have ga := (iha T hC X sc W hA).e _ h1
      have gb := (ihb T hC X sc W hA).e _ h2
      have gc := (ihc T hC X sc W hA).e _ h3
      exact (snd_chain hA.hu ga gb gc h0 h0' (pe_chain (cpr hA.hu o) (cpr hA.hu o') ga.pe gb.pe gc.pe hl) (pt_chain (cpr hA.hu o) (cpr hA.hu o') ga.pe gb.pe gc.pe hl)).imp (by funext ρ; simp only [ev])
    · cases h
  | not a iha =>
    intro T hC X sc W hA
    refine Good.ofE (fun x h => ?_) fun s hs => by cases s <;> first | exact absurd rfl (hs _) | simp only [chk]
    simp only [chk] at h
    split at h
    · rename_i heq
      cases heq
      exact (snd_not ((iha T hC X sc W hA).e _ h)).imp (by funext ρ; simp only [ev])
    · cases h
  | and a b iha ihb =>
    intro T hC X sc W hA
    have key : ∀ x y r pos, chk T N a sc (.e x) = true → chk T N b sc (.bo .And (y :: r)) = true → SndB X cl W .And (x :: y :: r) pos (ev call (.and a b)) := fun x y r pos h1 h2 => by
      have q := sndB_and (pos := pos) ((iha T hC X sc W hA).e _ h1) ((ihb T hC X sc W hA).bo _ _ pos h2)
      have e : ev call (.and a b) = fun ρ => (ev call a ρ).bind fun x => (truth x).bind fun k => if k then ev call b ρ else .ok x := by funext ρ; simp only [ev]
      rw [e]
      exact q
    refine ⟨fun x h => ?_, fun xs h => by simp [chk] at h, fun xs h => by simp [chk] at h, fun tg xs h => by simp [chk] at h, fun op xs pos h => ?_, fun x gs scope pos h => by simp [chk] at h⟩
    · simp only [chk] at h
      split at h
      · rename_i heq
        cases heq
        rw [Bool.and_eq_true] at h
        exact (key _ _ _ _ h.1 h.2).snd
      · rename_i heq; cases heq
      · cases h
    · simp only [chk] at h
      split at h
      · rename_i heq; cases heq
      · rename_i heq
        cases heq
        rw [Bool.and_eq_true] at h
        exact key _ _ _ _ h.1 h.2
      · cases h
  | or a b iha ihb =>
    intro T hC X sc W hA
    have key : ∀ x y r pos, chk T N a sc (.e x) = true → chk T N b sc (.bo .Or (y :: r)) = true → SndB X cl W .Or (x :: y :: r) pos (ev call (.or a b)) := fun x y r pos h1 h2 => by
      have q := sndB_or (pos := pos) ((iha T hC X sc W hA).e _ h1) ((ihb T hC X sc W hA).bo _ _ pos h2)
      have e : ev call (.or a b) = fun ρ => (ev call a ρ).bind fun x => (truth x).bind fun k => if k then .ok x else ev call b ρ := by funext ρ; simp only [ev]
      rw [e]
      exact q
    refine ⟨fun x h => ?_, fun xs h => by simp [chk] at h, fun xs h => by simp [chk] at h, fun tg xs h => by simp [chk] at h, fun op xs pos h => ?_, fun x gs scope pos h => by simp [chk] at h⟩
    · simp only [chk] at h
      split at h
      · rename_i heq
        cases heq
        rw [Bool.and_eq_true] at h
        exact (key _ _ _ _ h.1 h.2).snd
      · rename_i heq; cases heq
      · cases h
    · simp only [chk] at h
      split at h
      · rename_i heq; cases heq
      · rename_i heq
        cases heq
        rw [Bool.and_eq_true] at h
        exact key _ _ _ _ h.1 h.2
      · cases h
  | one a iha =>
    intro T hC X sc W hA
    refine ⟨fun x h => by simp [chk] at h, fun xs h => by simp [chk] at h, fun xs h => by simp [chk] at h, fun tg xs h => by simp [chk] at h, fun op xs pos h => ?_, fun x gs scope pos h => by simp [chk] at h⟩
    simp only [chk] at h
    split at h
    · rename_i heq
      cases heq
      have e : ev call (.one a) = ev call a := by funext ρ; simp only [ev]
      rw [e]
      exact sndB_one ((iha T hC X sc W hA).e _ h)
    · cases h
  | ite c a b ihc iha ihb =>
    intro T hC X sc W hA
    refine Good.ofE (fun x h => ?_) fun s hs => by cases s <;> first | exact absurd rfl (hs _) | simp only [chk]
    simp only [chk] at h
    split at h
    · rename_i heq
      cases heq
      simp only [Bool.and_eq_true] at h
      exact (snd_ite ((ihc T hC X sc W hA).e _ h.1.1) ((iha T hC X sc W hA).e _ h.1.2) ((ihb T hC X sc W hA).e _ h.2)).imp (by funext ρ; simp only [ev])
    · cases h
  | tup es ih =>
    intro T hC X sc W hA
    refine Good.ofE (fun x h => ?_) fun s hs => by cases s <;> first | exact absurd rfl (hs _) | simp only [chk]
    simp only [chk] at h
    split at h
    · rename_i heq
      cases heq
      rw [Bool.and_eq_true] at h
      obtain ⟨g1, g2, _⟩ := (ih T hC X sc W hA).es _ h.2
      exact (snd_tup g1 fun ρ d q => by
        obtain ⟨ds, e1, e2⟩ := g2 ρ d q
        exact ⟨ds, e1, by rw [e2]; exact Nat.le_of_ble_eq_true h.1⟩).imp (by funext ρ; simp only [ev])
    · cases h
  | lst es ih =>
    intro T hC X sc W hA
    refine Good.ofE (fun x h => ?_) fun s hs => by cases s <;> first | exact absurd rfl (hs _) | simp only [chk]
    simp only [chk] at h
    split at h
    · rename_i heq
      cases heq
      rw [Bool.and_eq_true] at h
      obtain ⟨g1, g2, _⟩ := (ih T hC X sc W hA).es _ h.2
      exact (snd_lst g1 fun ρ d q => by
        obtain ⟨ds, e1, e2⟩ := g2 ρ d q
        exact ⟨ds, e1, by rw [e2]; exact Nat.le_of_ble_eq_true h.1⟩).imp (by funext ρ; simp only [ev])
    · cases h
  | sub a i iha ihi =>
    intro T hC X sc W hA
    refine Good.ofE (fun x h => ?_) fun s hs => by cases s <;> first | exact absurd rfl (hs _) | simp only [chk]
    simp only [chk] at h
    split at h
    · rename_i heq
      cases heq
      simp only [Bool.and_eq_true] at h
      exact (snd_sub ((iha T hC X sc W hA).e _ h.1.2) ((ihi T hC X sc W hA).e _ h.2) h.1.1).imp (by funext ρ; simp only [ev])
    · cases h
  | slice a lo hi iha ihl ihh =>
    intro T hC X sc W hA
    refine Good.ofE (fun x h => ?_) fun s hs => by cases s <;> first | exact absurd rfl (hs _) | simp only [chk]
    simp only [chk] at h
    split at h
    · rename_i heq
      cases heq
      simp only [Bool.and_eq_true] at h
      exact (snd_slice ((iha T hC X sc W hA).e _ h.1.1) ((ihl T hC X sc W hA).op _ h.1.2) ((ihh T hC X sc W hA).op _ h.2)).imp (by funext ρ; simp only [ev])
    · cases h
  | rev a iha =>
    intro T hC X sc W hA
    refine Good.ofE (fun x h => ?_) fun s hs => by cases s <;> first | exact absurd rfl (hs _) | simp only [chk]
    simp only [chk] at h
    split at h
    · rename_i heq
      cases heq
      simp only [Bool.and_eq_true, decide_eq_true_eq] at h
      obtain ⟨e, h⟩ := h
      subst e
      exact (snd_revL ((iha T hC X sc W hA).e _ h)).imp (by funext ρ; simp only [ev])
    · cases h
  | call j es ih =>
    intro T hC X sc W hA
    refine Good.ofE (fun x h => ?_) fun s hs => by cases s <;> first | exact absurd rfl (hs _) | simp only [chk]
    simp only [chk] at h
    split at h
    · rename_i y p x xs pos heq
      cases heq
      simp only [Bool.and_eq_true] at h
      obtain ⟨⟨⟨hg, hn⟩, hf⟩, he⟩ := h
      cases hq : T.fns[j]? with
      | none => rw [hq] at hf; cases hf
      | some f =>
        rw [hq] at hf
        simp only [Bool.and_eq_true, decide_eq_true_eq] at hf
        obtain ⟨⟨e1, l1⟩, l2⟩ := hf
        have l1 := Nat.le_of_ble_eq_true l1
        have l2 := Nat.le_of_ble_eq_true l2
        subst e1
        obtain ⟨k, g, fd, hr, hm, hk, hF, hb⟩ := hA.fns j f hq
        obtain ⟨dvs, ds, hd, hdf, hB⟩ := hb _ l1 l2
        obtain ⟨g1, g2, g3⟩ := (ih T hC X sc W hA).es _ he
        have hlen : (padOf f (x :: xs).length).length = f.ps.length - (x :: xs).length := by
          unfold padOf
          rw [List.length_drop]
          omega
        refine (snd_call hF (hr.mono (Nat.le_add_right _ _)) (glB_ok hg hA.scope) hm hk hB hd hdf hA.tk g1 (okN_ok hn).1 g3 fun ρ d q => ?_).imp ?_
        · obtain ⟨as, e1, e2⟩ := g2 ρ d q
          exact ⟨as, e1, by rw [e2, hlen]; omega⟩
        · funext ρ
          simp only [ev]
          cases hq2 : ev call es ρ with
          | ok d =>
            obtain ⟨as, e1, e2⟩ := g2 ρ d hq2
            subst e1
            show call j as = run j (as ++ padOf f (x :: xs).length)
            rw [hC j f as hq, e2]
          | ex c => rfl
          | bad => rfl
    · cases h
  | blt b es ih =>
    intro T hC X sc W hA
    refine Good.ofE (fun x h => ?_) fun s hs => by cases s <;> first | exact absurd rfl (hs _) | simp only [chk]
    simp only [chk] at h
    split at h
    · rename_i y p x xs pos heq
      cases heq
      simp only [Bool.and_eq_true, decide_eq_true_eq] at h
      obtain ⟨⟨⟨e1, hg⟩, hm⟩, he⟩ := h
      subst e1
      obtain ⟨g1, g2, g3⟩ := (ih T hC X sc W hA).es _ he
      exact (snd_blt hA.calm (glB_ok hg hA.scope) (bls_ok hA hm) g1 g3 fun ρ d q => by
        obtain ⟨as, e1, e2⟩ := g2 ρ d q
        exact ⟨as, e1⟩).imp (by funext ρ; simp only [ev])
    · cases h
  | isi a Ty ih =>
    intro T hC X sc W hA
    refine Good.ofE (fun x h => ?_) fun s hs => by cases s <;> first | exact absurd rfl (hs _) | simp only [chk]
    simp only [chk] at h
    split at h
    · rename_i heq
      cases heq
      simp only [Bool.and_eq_true, decide_eq_true_eq] at h
      obtain ⟨⟨⟨⟨⟨⟨⟨e1, hg⟩, hm⟩, hg2⟩, hm2⟩, ht⟩, hs⟩, ha⟩ := h
      subst e1
      obtain ⟨t1, t2, t3⟩ := tyNm_ok ht
      exact (snd_isi (glB_ok hg hA.scope) (bls_ok hA hm) (glB_ok hg2 hA.scope) (bls_ok hA hm2) t1 t2 t3 ((ih T hC X sc W hA).e _ ha) hs).imp (by funext ρ; simp only [ev])
    · cases h
  | lc own own' t it cond elt ihi ihc ihe =>
    intro T hC X sc W hA
    have key : ∀ x gs scope pos, chk T N (.lc own own' t it cond elt) sc (.e (.ListComp x gs scope pos)) = true → ∃ tg iter ifs own2 t2 fi fc fe, gs = [⟨tg, iter, ifs, 0⟩] ∧ LcP X cl W x tg iter ifs scope own2 t2 fi fc fe ∧ ev call (.lc own own' t it cond elt) = lcD (own2.map (·.2)) t2 fi fc fe := by
     intro x gs scope pos h
     simp only [chk] at h
     split at h
     · rename_i x1 tg iter ifs asy scope pos heq
       cases heq
       simp only [Bool.and_eq_true, decide_eq_true_eq] at h
       obtain ⟨⟨⟨⟨⟨⟨⟨⟨⟨⟨h0, hb⟩, ho⟩, hix⟩, hall⟩, ht⟩, hset⟩, hk⟩, hi⟩, hc⟩, he⟩ := h
       subst h0 ho
       have hblk := blkOk_by hb
       have e : ev call (.lc (own'.map (·.2)) own' t it cond elt) = lcD (own'.map (·.2)) t (ev call it) (ev call cond) (ev call elt) := by funext ρ; simp only [ev]
       refine ⟨tg, iter, ifs, own', t, ev call it, ev call cond, ev call elt, rfl, ⟨(ihi T hC X sc W hA).it _ _ hi, by rw [hA.N, hA.scope]; exact hblk, fun s H C c fp => ?_, fun s H C c fp => ?_, fun s H C c fp => ?_, fun i hi => ?_, fun i hi => ?_, notSet_ok hset⟩, e⟩
       · have hA' := hA.blk scope s H C c fp
         have fnl : ∀ y, locB scope y = true → Loc (X.blk s H scope (compEnvC scope c C X.env) fp).env.scope y ∧ ((X.blk s H scope (compEnvC scope c C X.env) fp).fn y = true ∨ (X.blk s H scope (compEnvC scope c C X.env) fp).env.scope.names.lookup y = some .local) := fun y hy => by
           rw [hA'.scope]
           unfold locB at hy
           split at hy
           · rename_i q
             have := lookup_relS_keep (sc := sc) (by decide) q
             exact ⟨.inl this, .inr this⟩
           · rename_i q
             have := lookup_relS_keep (sc := sc) (by decide) q
             refine ⟨.inr this, .inl ?_⟩
             show (scope.names.lookup y == some .cell) = true
             rw [q]; rfl
           · cases hy
         exact chkT_ok hA'.calm hA'.nd hA'.N fnl t tg ht
       · have hA' := hA.blk scope s H C c fp
         split at hc
         · rw [isLit_ok hc]
           exact sndT_nil
         · exact sndT_one ((ihc { T with gn := T.bgn } hC _ _ _ hA').e _ hc)
         · cases hc
       · exact ((ihe { T with gn := T.bgn } hC _ _ _ (hA.blk scope s H C c fp)).e _ he).pe
       · rw [hA.N]
         have := List.all_eq_true.mp hix i hi
         exact of_decide_eq_true this
       · have := List.all_eq_true.mp hall i hi
         simpa using this
     · cases h
    refine ⟨fun x h => ?_, fun xs h => by simp [chk] at h, fun xs h => by simp [chk] at h, fun tg xs h => by simp [chk] at h, fun op xs pos h => by simp [chk] at h, key⟩
    have h' := h
    simp only [chk] at h'
    split at h'
    · rename_i heq
      cases heq
      obtain ⟨tg, iter, ifs, own2, t2, fi, fc, fe, e1, e2, e3⟩ := key _ _ _ _ h
      rw [e3]
      cases e1
      exact snd_lc hA.calm hA.nd e2
    · cases h'
  | enil =>
    intro T hC X sc W hA
    refine ⟨fun x h => by simp [chk] at h, fun xs h => ?_, fun xs h => by simp [chk] at h, fun tg xs h => by simp [chk] at h, fun op xs pos h => by simp [chk] at h, fun x gs scope pos h => by simp [chk] at h⟩
    simp only [chk] at h
    split at h
    · rename_i heq
      cases heq
      have e : ev call .enil = fun _ => .ok (.tuple []) := by funext ρ; simp only [ev]
      rw [e]
      exact ⟨sndA_nil, fun ρ d q => by cases q; exact ⟨[], rfl, rfl⟩, rfl⟩
    · cases h
  | econs a t iha iht =>
    intro T hC X sc W hA
    refine ⟨fun x h => by simp [chk] at h, fun xs h => ?_, fun xs h => by simp [chk] at h, fun tg xs h => by simp [chk] at h, fun op xs pos h => by simp [chk] at h, fun x gs scope pos h => by simp [chk] at h⟩
    simp only [chk] at h
    split at h
    · rename_i heq
      cases heq
      simp only [Bool.and_eq_true] at h
      obtain ⟨⟨hs, h1⟩, h2⟩ := h
      obtain ⟨g1, g2, g3⟩ := (iht T hC X sc W hA).es _ h2
      have e : ev call (.econs a t) = fun ρ => (ev call a ρ).bind fun x => (ev call t ρ).bind (consD x) := by funext ρ; simp only [ev]
      rw [e]
      refine ⟨sndA_cons ((iha T hC X sc W hA).e _ h1) g1 hs, fun ρ d q => ?_, by rw [List.all_cons, Bool.and_eq_true]; exact ⟨hs, g3⟩⟩
      have q : ((ev call a ρ).bind fun x => (ev call t ρ).bind (consD x)) = .ok d := q
      cases q1 : ev call a ρ with
      | ok v =>
        rw [q1] at q
        have q : ((ev call t ρ).bind (consD v)) = .ok d := q
        cases q2 : ev call t ρ with
        | ok y =>
          rw [q2] at q
          obtain ⟨as, e1, e2⟩ := g2 ρ y q2
          subst e1
          have q : R.ok (PyData.tuple (v :: as)) = .ok d := q
          cases q
          exact ⟨_, rfl, by rw [List.length_cons, List.length_cons, e2]⟩
        | ex c => rw [q2] at q; cases q
        | bad => rw [q2] at q; cases q
      | ex c => rw [q1] at q; cases q
      | bad => rw [q1] at q; cases q
    · cases h
  | nopart =>
    intro T hC X sc W hA
    refine ⟨fun x h => by simp [chk] at h, fun xs h => by simp [chk] at h, fun xs h => ?_, fun tg xs h => by simp [chk] at h, fun op xs pos h => by simp [chk] at h, fun x gs scope pos h => by simp [chk] at h⟩
    simp only [chk] at h
    split at h
    · rename_i heq
      cases heq
      have e : ev call .nopart = fun _ => .ok .none := by funext ρ; simp only [ev]
      rw [e]
      exact sndO_none
    · cases h
  | part a iha =>
    intro T hC X sc W hA
    refine ⟨fun x h => by simp [chk] at h, fun xs h => by simp [chk] at h, fun xs h => ?_, fun tg xs h => by simp [chk] at h, fun op xs pos h => by simp [chk] at h, fun x gs scope pos h => by simp [chk] at h⟩
    simp only [chk] at h
    split at h
    · rename_i heq
      cases heq
      have e : ev call (.part a) = fun ρ => (ev call a ρ).bind numD := by funext ρ; simp only [ev]
      rw [e]
      exact sndO_some ((iha T hC X sc W hA).e _ h)
    · cases h
  | iseq a iha =>
    intro T hC X sc W hA
    refine Good.ofI (fun tg x h => ?_) fun s hs => by cases s <;> first | exact absurd rfl (hs _ _) | simp only [chk]
    simp only [chk] at h
    have e : ev call (.iseq a) = fun ρ => (ev call a ρ).bind fun x => (seqOf x).bind fun xs => .ok (.list xs) := by funext ρ; simp only [ev]
    rw [e]
    exact sndI_seq ((iha T hC X sc W hA).e _ h)
  | ir1 a iha =>
    intro T hC X sc W hA
    refine Good.ofI (fun tg x h => ?_) fun s hs => by cases s <;> first | exact absurd rfl (hs _ _) | simp only [chk]
    simp only [chk] at h
    split at h
    · rename_i heq
      cases heq
      simp only [Bool.and_eq_true, decide_eq_true_eq] at h
      obtain ⟨⟨⟨⟨e1, hg⟩, hm⟩, hs⟩, ha⟩ := h
      subst e1
      have e : ev call (.ir1 a) = fun ρ => (ev call a ρ).bind r1D := by funext ρ; simp only [ev]
      rw [e]
      exact sndI_range1 (glB_ok hg hA.scope) (bls_ok hA hm) ((iha T hC X sc W hA).e _ ha) hs
    · cases h
  | ir2 a b iha ihb =>
    intro T hC X sc W hA
    refine Good.ofI (fun tg x h => ?_) fun s hs => by cases s <;> first | exact absurd rfl (hs _ _) | simp only [chk]
    simp only [chk] at h
    split at h
    · rename_i heq
      cases heq
      simp only [Bool.and_eq_true, decide_eq_true_eq] at h
      obtain ⟨⟨⟨⟨⟨⟨e1, hg⟩, hm⟩, hs⟩, hs2⟩, ha⟩, hb⟩ := h
      subst e1
      have e : ev call (.ir2 a b) = fun ρ => (ev call a ρ).bind fun x => (ev call b ρ).bind (r2D x) := by funext ρ; simp only [ev]
      rw [e]
      exact sndI_range2 (glB_ok hg hA.scope) (bls_ok hA hm) ((iha T hC X sc W hA).e _ ha) ((ihb T hC X sc W hA).e _ hb) hs hs2
    · cases h
  | ienum a iha =>
    intro T hC X sc W hA
    refine Good.ofI (fun tg x h => ?_) fun s hs => by cases s <;> first | exact absurd rfl (hs _ _) | simp only [chk]
    simp only [chk] at h
    split at h
    · rename_i heq
      cases heq
      simp only [Bool.and_eq_true, decide_eq_true_eq] at h
      obtain ⟨⟨⟨⟨e1, hg⟩, hm⟩, hs⟩, ha⟩ := h
      subst e1
      have e : ev call (.ienum a) = fun ρ => (ev call a ρ).bind fun x => (seqOf x).bind fun xs => .ok (.list (enumFrom 0 xs)) := by funext ρ; simp only [ev]
      rw [e]
      exact sndI_enum (glB_ok hg hA.scope) (bls_ok hA hm) ((iha T hC X sc W hA).e _ ha) hs
    · cases h
  | izip a b iha ihb =>
    intro T hC X sc W hA
    refine Good.ofI (fun tg x h => ?_) fun s hs => by cases s <;> first | exact absurd rfl (hs _ _) | simp only [chk]
    simp only [chk] at h
    split at h
    · rename_i heq
      cases heq
      simp only [Bool.and_eq_true, decide_eq_true_eq] at h
      obtain ⟨⟨⟨⟨⟨⟨e1, hg⟩, hm⟩, hs⟩, hs2⟩, ha⟩, hb⟩ := h
      subst e1
      have e : ev call (.izip a b) = fun ρ => (ev call a ρ).bind fun x => (ev call b ρ).bind (zipDD x) := by funext ρ; simp only [ev]
      rw [e]
      exact sndI_zip (glB_ok hg hA.scope) (bls_ok hA hm) ((iha T hC X sc W hA).e _ ha) ((ihb T hC X sc W hA).e _ hb) hs hs2
    · cases h
  | irev a iha =>
    intro T hC X sc W hA
    refine Good.ofI (fun tg x h => ?_) fun s hs => by cases s <;> first | exact absurd rfl (hs _ _) | simp only [chk]
    simp only [chk] at h
    split at h
    · rename_i heq
      cases heq
      simp only [Bool.and_eq_true, decide_eq_true_eq] at h
      obtain ⟨⟨⟨⟨e1, hg⟩, hm⟩, hs⟩, ha⟩ := h
      subst e1
      have e : ev call (.irev a) = fun ρ => (ev call a ρ).bind fun x => (seqOf x).bind fun xs => .ok (.list xs.reverse) := by funext ρ; simp only [ev]
      rw [e]
      exact sndI_rev (glB_ok hg hA.scope) (bls_ok hA hm) ((iha T hC X sc W hA).e _ ha) hs
    · cases h
  | ir3 a b c iha ihb ihc =>
    intro T hC X sc W hA
    refine Good.ofI (fun tg x h => ?_) fun s hs => by cases s <;> first | exact absurd rfl (hs _ _) | simp only [chk]
    simp only [chk] at h
    split at h
    · rename_i heq
      cases heq
      simp only [Bool.and_eq_true, decide_eq_true_eq] at h
      obtain ⟨⟨⟨⟨⟨⟨⟨⟨e1, hg⟩, hm⟩, hs⟩, hs2⟩, hs3⟩, ha⟩, hb⟩, hc⟩ := h
      subst e1
      have e : ev call (.ir3 a b c) = fun ρ => (ev call a ρ).bind fun x => (ev call b ρ).bind fun y => (ev call c ρ).bind (r3D x y) := by funext ρ; simp only [ev]
      rw [e]
      exact sndI_range3 (glB_ok hg hA.scope) (bls_ok hA hm) ((iha T hC X sc W hA).e _ ha) ((ihb T hC X sc W hA).e _ hb) ((ihc T hC X sc W hA).e _ hc) hs hs2 hs3
    · cases h
  | gen w own own' t it elt ihi ihe =>
    intro T hC X sc W hA
    refine Good.ofE (fun x h => ?_) fun s hs => by cases s <;> first | exact absurd rfl (hs _) | simp only [chk]
    simp only [chk] at h
    split at h
    · rename_i y p x tg iter ifs asy scope gpos pos heq
      cases heq
      simp only [Bool.and_eq_true, decide_eq_true_eq, Bool.not_eq_true', List.isEmpty_iff] at h
      obtain ⟨⟨⟨⟨⟨⟨⟨⟨⟨⟨⟨⟨⟨⟨⟨⟨e1, hg⟩, hm⟩, hn⟩, hifs⟩, h0⟩, hb⟩, ho⟩, hix⟩, hall⟩, ht⟩, hset⟩, hco⟩, hdot⟩, hn0⟩, hi⟩, he⟩ := h
      subst e1 hifs h0 ho
      have hblk := blkOk_by hb
      have gc := fun (s : Shared) (H : Hp) (c : List (Str × Addr)) (C : Addr) (cv : Value) (fp : List Addr) (pn : List (Addr × Obj)) (hcv : CodeN H cv) => hA.gen hn scope s H c C cv fp pn hcv
      have G : GenD X cl W x tg iter scope own' t (ev call it) (ev call elt) := {
        it := (ihi T hC X sc W hA).it _ _ hi
        ok := by rw [hA.N, hA.scope]; exact hblk
        co := hco
        dot := hdot
        n0 := by
          rw [hA.N]
          intro z
          have : N.contains (".0" : Str) = true := by simpa using z
          rw [this] at hn0; cases hn0
        tg := fun s H c C cv fp pn hcv => by
          have hA' := gc s H c C cv fp pn hcv
          have fnl : ∀ y, locB scope y = true → Loc (genCx X s H scope (genEnv scope c C cv builtinsNs X.env) fp pn).env.scope y ∧ ((genCx X s H scope (genEnv scope c C cv builtinsNs X.env) fp pn).fn y = true ∨ (genCx X s H scope (genEnv scope c C cv builtinsNs X.env) fp pn).env.scope.names.lookup y = some .local) := fun y hy => by
            rw [hA'.scope]
            unfold locB at hy
            split at hy
            · rename_i q
              exact ⟨.inl q, .inr q⟩
            · rename_i q
              refine ⟨.inr q, .inl ?_⟩
              show (scope.names.lookup y == some .cell) = true
              rw [q]; rfl
            · cases hy
          exact chkT_ok hA'.calm hA'.nd hA'.N fnl t tg ht
        elt := fun s H c C cv fp pn hcv => ((ihe { T with gn := T.gn - 1, gb := false } hC _ _ _ (gc s H c C cv fp pn hcv)).e _ he).pe
        ix := fun i hi => by
          rw [hA.N]
          have := List.all_eq_true.mp hix i hi
          exact of_decide_eq_true this
        all := fun i hi => by
          have := List.all_eq_true.mp hall i hi
          simpa using this
        fold := fun v => by
          cases iter <;> first | rfl | (simp [notSetL] at hset; done) }
      exact (snd_gen hA.calm hA.nd (hA.rm.mono (by omega)) (fun pins σ H s I => hA.code hn X.pn X.xe pins σ H s I) (hA.built hn) (glB_ok hg hA.scope) (bls_ok hA hm) G).imp (by funext ρ; simp only [ev])
    · cases h
theorem sound (hC : CallOk T call run) (ir : IE) (X : Cx) (sc : Scope) (W : WX) (hA : At T N cl run X sc W) : Good T N cl call ir X sc W := sound' ir T hC X sc W hA
end
end DL
namespace DL
open PySem PySem.Spec PyProof.Rows L2
variable [Tabs]

/-! ### expressions that give a new list -/
def toF (K : PySem.W.Frag) (S H : Hp) (Q : VK) (d : PyData) : Prop := match d with
  | .list ds => ∀ p vs H', H p = none → Up H H' → H' p = some (.lst vs) → S p = none → RpA K S ds vs → Q (.ref p) H'
  | _ => False
def rBF (K : PySem.W.Frag) (o : Bop) : R2 := fun x y H Q => ∃ S dx dy, In S H ∧ Rp K S dx x ∧ Rp K S dy y ∧ post (binD o dx dy) (toF K S H Q) (fun _ => False)
section
variable {X : Cx}
theorem opf_add : OpR X (binaryOp .Add) (rBF X.K .add) := by
  intro pins s σ H x y v u Q I rx ry ⟨S, dx, dy, hS, hx, hy, h⟩
  cases dx <;> cases dy <;> simp only [binD] at h <;> try exact h.elim
  · obtain ⟨hz, h⟩ := post_if h; exact h.elim
  · rename_i xs ys
    obtain ⟨hz, h⟩ := post_if h
    simp only [Rp] at hx hy
    obtain ⟨a, vs, rfl, ha, ra⟩ := hx
    obtain ⟨b, us, rfl, hb, rb⟩ := hy
    have hl : vs.length + us.length ≤ sizeLine := by rw [ra.length, rb.length]; exact Nat.le_trans hz bigLine
    exact op_cat pins s σ H _ _ v u Q I rx ry ⟨a, b, vs, us, rfl, rfl, hS _ _ ha, hS _ _ hb, hl, fun p hp =>
      h p _ _ hp (up_upd hp) upd_same (hS.no hp) (RpA.append ra rb)⟩
  · obtain ⟨hz, h⟩ := post_if h; exact h.elim
theorem opf_mul : OpR X (binaryOp .Mult) (rBF X.K .mul) := by
  intro pins s σ H x y v u Q I rx ry ⟨S, dx, dy, hS, hx, hy, h⟩
  cases dx <;> cases dy <;> simp only [binD] at h <;> try exact h.elim
  · obtain ⟨hz, h⟩ := post_if h; exact h.elim
  · rename_i xs k
    obtain ⟨⟨z1, z2, z3⟩, h⟩ := post_if h
    simp only [Rp] at hx
    obtain ⟨a, vs, rfl, ha, ra⟩ := hx
    cases rp_int hy
    have hl : vs.length * k.toNat ≤ sizeLine := by rw [ra.length]; exact Nat.le_trans z3 bigLine
    exact op_rep pins s σ H _ _ v u Q I rx ry ⟨a, k, vs, rfl, rfl, hS _ _ ha, by omega, by omega, hl, fun p hp =>
      h p _ _ hp (up_upd hp) upd_same (hS.no hp) (RpA.rep ra k.toNat)⟩
  · obtain ⟨hz, h⟩ := post_if h; exact h.elim
def freshOp : Bop → Bool
  | .add => true
  | .mul => true
  | _ => false
theorem opf {o : Bop} (h : freshOp o = true) : OpR X (binaryOp o.op) (rBF X.K o) := by
  cases o <;> first | exact opf_add | exact opf_mul | cases h
variable {cl : Nat → Value} {W : WX} {e a b : Expr} {es : List Expr} {f fa fb : Env → R PyData} {pos : Pos}
theorem fr_bin {o : Bop} (ho : freshOp o = true) (ha : Snd X cl W a fa) (hb : Snd X cl W b fb) : PE X (.BinOp a o.op b pos) (tDF (wh X cl W) fun ρ => (fa ρ).bind fun x => (fb ρ).bind fun y => binD o x y) := by
  refine pe_imp (pe_op (opf ho) ha.pe hb.pe) fun σ H Q ⟨S, ρ, hS, hr, h⟩ => ?_
  simp only [post_bind] at h
  refine td_two hS hr h fun x y vx vy H2 S2 p g qx qy => ⟨S2, x, y, g.in_, qx, qy, quiet_post (quiet_binD o x y) (post_mono p (fun d q => ?_) fun _ z => z)⟩
  cases d <;> try exact q.elim
  exact fun p vs H' n s e1 e2 r => q p vs H' S2 ⟨g.h.trans s, g.s, g.in_.up s, g.new⟩ e1 (by
    exact g.h.no n) e2 r
theorem fr_lst (h : SndA X cl W es f) (hz : ∀ ρ d, f ρ = .ok d → ∃ ds, d = .tuple ds ∧ ds.length ≤ big) : PE X (.List es pos) (tDF (wh X cl W) fun ρ => (f ρ).bind lstD) := by
  refine pe_imp (pe_lst h) fun σ H Q ⟨S, ρ, hS, hr, h⟩ => ?_
  simp only [post_bind] at h
  refine tda_one (P := fun d => f ρ = .ok d ∧ post (lstD d) (fun d => match d with
    | .list ds => ∀ p vs H' S', Grow H S H' S' → H' p = some (.lst vs) → H p = none → S' p = none → RpA X.K S' ds vs → Q (.ref p) H'
    | _ => False) ((wh X cl W).E σ H)) hS hr (post_monoR h (fun d e q => ⟨e, q⟩) fun _ z => z) (fun d p => ?_) fun ds vs H' S' p g r => ?_
  · obtain ⟨ds, e, _⟩ := hz ρ d p.1
    exact ⟨ds, e⟩
  · obtain ⟨ds', e, hl⟩ := hz ρ _ p.1
    cases e
    refine ⟨by rw [r.length]; exact Nat.le_trans hl bigLine, fun q n => ?_⟩
    have p2 := p.2
    exact p2 q _ _ S' ⟨g.h.trans (up_upd n), g.s, g.in_.lay n, g.new⟩ upd_same (g.h.no n) (g.in_.no n) r
def rLi (K : PySem.W.Frag) : List V → Hp → VK → Prop := fun xs H Q => ∃ S ds, In S H ∧ RpA K S ds xs ∧ post (bltD .list ds) (toF K S H Q) (fun _ => False)
theorem blf : CallR X (.type "list") (rLi X.K) := by
  intro pins s σ H xs us Q I r ⟨S, ds, hS, hx, h⟩
  unfold bltD at h
  split at h <;> first | (rename_i heq _; cases heq; done) | skip
  all_goals try (rename_i hb; cases hb; done)
  · obtain ⟨v, rfl, q⟩ := one_of hx
    simp only [Rp] at q
    obtain ⟨a, vs, rfl, ha, ra⟩ := q
    exact call_list_of pins s σ H _ us Q I r ⟨a, vs, rfl, .inl (SqL.ofS (hS _ _ ha)), fun p hp => h p _ _ hp (up_upd hp) upd_same (hS.no hp) ra⟩
  · obtain ⟨v, rfl, q⟩ := one_of hx
    simp only [Rp] at q
    obtain ⟨a, vs, rfl, ha, ra⟩ := q
    exact call_list_of pins s σ H _ us Q I r ⟨a, vs, rfl, .inr (SqT.sub hS.sub ha), fun p hp => h p _ _ hp (up_upd hp) upd_same (hS.no hp) ra⟩
  · exact h.elim
theorem fr_list {p : Pos} (hg : Gl X "list") (hm : X.mg "list" = none) (ha : SndA X cl W (e :: es) f) (hns : (e :: es).all notStar = true) (hn : ∀ ρ d, f ρ = .ok d → ∃ as, d = .tuple as) :
    PE X (.Call (.Name "list" p) (e :: es) [] pos) (tDF (wh X cl W) fun ρ => (f ρ).bind (unT (bltD .list))) := by
  rw [List.all_cons, Bool.and_eq_true] at hns
  refine pe_imp (pe_callTy blf hg hm (Blt.boot .list) ha (by decide) (by decide) (star_cons hns.1) (back_any hns.2)) fun σ H Q ⟨S, ρ, hS, hr', h⟩ => ?_
  simp only [post_bind] at h
  refine tda_one (P := fun d => f ρ = .ok d ∧ post (unT (bltD .list) d) (fun d => match d with
    | .list ds => ∀ p vs H' S', Grow H S H' S' → H' p = some (.lst vs) → H p = none → S' p = none → RpA X.K S' ds vs → Q (.ref p) H'
    | _ => False) ((wh X cl W).E σ H)) hS hr' (post_monoR h (fun d e q => ⟨e, q⟩) fun _ z => z) (fun d p => hn ρ d p.1) fun as vs H' S' p g r => ?_
  refine ⟨S', as, g.in_, r, quiet_post (quiet_bltD .list as) (post_mono p.2 (fun d q => ?_) fun _ z => z)⟩
  cases d <;> try exact q.elim
  exact fun p vs H2 n s e1 e2 r => q p vs H2 S' ⟨g.h.trans s, g.s, g.in_.up s, g.new⟩ e1 (by
    exact g.h.no n) e2 r
end
def freshE : IE → Bool
  | .lst _ => true
  | .lc _ _ _ _ _ _ => true
  | .bin o _ _ => freshOp o
  | .blt .list _ => true
  | _ => false
section
variable {T : Tab} {N : List Str} {cl : Nat → Value} {call run : Nat → List PyData → R PyData} {X : Cx} {sc : Scope} {W : WX}
theorem pe_eq {e : Expr} {w : Wh} {f g : Env → R PyData} (h : PE X e (tDF w f)) (hf : g = f) : PE X e (tDF w g) := by subst hf; exact h
theorem soundF (hC : CallOk T call run) (hA : At T N cl run X sc W) (ir : IE) (hf : freshE ir = true) (x : Expr) (h : chk T N ir sc (.e x) = true) : PE X x (tDF (wh X cl W) (ev call ir)) := by
  cases ir <;> simp only [freshE] at hf <;> try (exact absurd hf Bool.false_ne_true)
  case lst es =>
    simp only [chk] at h
    split at h
    · rename_i heq
      cases heq
      rw [Bool.and_eq_true] at h
      obtain ⟨g1, g2, _⟩ := (sound hC es X sc W hA).es _ h.2
      exact pe_eq (fr_lst g1 fun ρ d q => by
        obtain ⟨ds, e1, e2⟩ := g2 ρ d q
        exact ⟨ds, e1, by rw [e2]; exact Nat.le_of_ble_eq_true h.1⟩) (by funext ρ; simp only [ev])
    · cases h
  case bin o a b =>
    simp only [chk] at h
    split at h
    · rename_i heq
      cases heq
      simp only [Bool.and_eq_true, decide_eq_true_eq] at h
      obtain ⟨⟨e, h1⟩, h2⟩ := h
      subst e
      exact pe_eq (fr_bin hf ((sound hC a X sc W hA).e _ h1) ((sound hC b X sc W hA).e _ h2)) (by funext ρ; simp only [ev])
    · cases h
  case blt b es =>
    have eb : b = .list := by cases b <;> first | rfl | (exact absurd hf Bool.false_ne_true)
    subst eb
    simp only [chk] at h
    split at h
    · rename_i y p x xs pos heq
      cases heq
      simp only [Bool.and_eq_true, decide_eq_true_eq] at h
      obtain ⟨⟨⟨e1, hg⟩, hm⟩, he⟩ := h
      subst e1
      obtain ⟨g1, g2, g3⟩ := (sound hC es X sc W hA).es _ he
      exact pe_eq (fr_list (glB_ok hg hA.scope) (bls_ok hA hm) g1 g3 fun ρ d q => by
        obtain ⟨as, e1, e2⟩ := g2 ρ d q
        exact ⟨as, e1⟩) (by funext ρ; simp only [ev])
    · cases h
  case lc own own' t it cond elt =>
    have h' := h
    simp only [chk] at h'
    split at h'
    · rename_i heq
      cases heq
      obtain ⟨tg, iter, ifs, own2, t2, fi, fc, fe, e1, e2, e3⟩ := (sound hC _ X sc W hA).lc _ _ _ _ h
      rw [e3]
      cases e1
      exact lc_fresh hA.calm hA.nd e2
    · cases h'
end
end DL
namespace DL
open PySem PySem.Spec PyProof.Rows L2
variable [Tabs]
open Classical

/-! ### a frame with lists of its own -/
/-- the lists that a slot owns -/
abbrev Fp := Nat → List Addr
def lstsAt (K : PySem.W.Frag) (H S : Hp) : List (List PyData) → List Addr → Prop
  | [], [] => True
  | ds :: dss, b :: bs => (∃ ws, H b = some (.lst ws) ∧ RpA K S ds ws) ∧ lstsAt K H S dss bs
  | _, _ => False
def SlR (K : PySem.W.Frag) (H S : Hp) (o : Option (Option V)) (s : Sl) (F : List Addr) : Prop := match s with
  | .un => F = []
  | .sh d => F = [] ∧ ∃ v, o = some (some v) ∧ Rp K S d v
  | .o1 ds => ∃ a vs, F = [a] ∧ o = some (some (.ref a)) ∧ H a = some (.lst vs) ∧ RpA K S ds vs
  | .o2 dss => ∃ a bs, F = a :: bs ∧ o = some (some (.ref a)) ∧ H a = some (.lst (bs.map V.ref)) ∧ lstsAt K H S dss bs
structure EnvR (K : PySem.W.Frag) (H S : Hp) (σ : St) (ρ : Env) (F : Fp) : Prop where
  sub : In S H
  slot : ∀ i s, ρ[i]? = some s → SlR K H S σ[i]? s (F i)
  out : ∀ i, ρ[i]? = none → F i = []
  nd : ∀ i, (F i).Nodup
  apart : ∀ i j a, a ∈ F i → a ∈ F j → i = j
  free : ∀ i a, a ∈ F i → S a = none
theorem lstsAt.mem {K : PySem.W.Frag} {H S : Hp} : ∀ {dss : List (List PyData)} {bs : List Addr}, lstsAt K H S dss bs → ∀ b ∈ bs, ∃ ws, H b = some (.lst ws)
  | [], [], _ => fun b h => by cases h
  | [], _ :: _, h => by cases h
  | _ :: _, [], h => by cases h
  | ds :: dss, b :: bs, h => fun c hc => by
    obtain ⟨⟨ws, e, _⟩, h2⟩ := h
    rcases List.mem_cons.mp hc with z | z
    · subst z; exact ⟨ws, e⟩
    · exact h2.mem c z
theorem lstsAt.mono {K : PySem.W.Frag} {H S H' S' : Hp} : ∀ {dss : List (List PyData)} {bs : List Addr}, lstsAt K H S dss bs → (∀ b ∈ bs, ∀ o, H b = some (.lst o) → H' b = some (.lst o)) → Sub S S' → lstsAt K H' S' dss bs
  | [], [], _, _, _ => trivial
  | [], _ :: _, h, _, _ => by cases h
  | _ :: _, [], h, _, _ => by cases h
  | ds :: dss, b :: bs, ⟨⟨ws, e, q⟩, h2⟩, hb, hs => ⟨⟨ws, hb b List.mem_cons_self _ e, q.sub hs⟩, h2.mono (fun c hc => hb c (List.mem_cons_of_mem _ hc)) hs⟩
theorem SlR.mem {K : PySem.W.Frag} {H S : Hp} {o : Option (Option V)} {s : Sl} {F : List Addr} (h : SlR K H S o s F) : ∀ a ∈ F, ∃ vs, H a = some (.lst vs) := by
  cases s with
  | un => intro a ha; rw [show F = [] from h] at ha; cases ha
  | sh d => intro a ha; rw [h.1] at ha; cases ha
  | o1 ds =>
    obtain ⟨a, vs, rfl, _, e, _⟩ := h
    intro b hb
    have : b = a := by simpa using hb
    subst this
    exact ⟨vs, e⟩
  | o2 dss =>
    obtain ⟨a, bs, rfl, _, e, q⟩ := h
    intro b hb
    rcases List.mem_cons.mp hb with z | z
    · subst z; exact ⟨_, e⟩
    · exact q.mem b z
theorem SlR.mono {K : PySem.W.Frag} {H S H' S' : Hp} {o : Option (Option V)} {s : Sl} {F : List Addr} (h : SlR K H S o s F) (hH : ∀ b ∈ F, ∀ u, H b = some (.lst u) → H' b = some (.lst u)) (hS : Sub S S') : SlR K H' S' o s F := by
  cases s with
  | un => exact h
  | sh d => exact ⟨h.1, h.2.imp fun v q => ⟨q.1, Rp.sub hS d v q.2⟩⟩
  | o1 ds =>
    obtain ⟨a, vs, rfl, e1, e, q⟩ := h
    exact ⟨a, vs, rfl, e1, hH a (by simp) _ e, q.sub hS⟩
  | o2 dss =>
    obtain ⟨a, bs, rfl, e1, e, q⟩ := h
    exact ⟨a, bs, rfl, e1, hH a (by simp) _ e, q.mono (fun b hb => hH b (by simp [hb])) hS⟩
def InF (F : Fp) (a : Addr) : Prop := ∃ i, a ∈ F i
theorem EnvR.lst {K : PySem.W.Frag} {H S : Hp} {σ : St} {ρ : Env} {F : Fp} (h : EnvR K H S σ ρ F) {a : Addr} (ha : InF F a) : (∃ vs, H a = some (.lst vs)) ∧ S a = none := by
  obtain ⟨i, hi⟩ := ha
  refine ⟨?_, h.free i a hi⟩
  cases e : ρ[i]? with
  | none => rw [h.out i e] at hi; cases hi
  | some s => exact (h.slot i s e).mem a hi

/-! ### the part that is seen: what stays, and the lists of the slots at P -/
noncomputable def seen (S H : Hp) (F : Fp) (P : Nat → Prop) : Hp := fun b => if ∃ i, P i ∧ b ∈ F i then H b else S b
section
variable {K : PySem.W.Frag} {H S H' S' : Hp} {σ : St} {ρ : Env} {F : Fp} {P : Nat → Prop}
theorem seen_in {b : Addr} (h : ∃ i, P i ∧ b ∈ F i) : seen S H F P b = H b := if_pos h
theorem seen_out {b : Addr} (h : ¬ ∃ i, P i ∧ b ∈ F i) : seen S H F P b = S b := if_neg h
theorem EnvR.seen_sub (h : EnvR K H S σ ρ F) : Sub S (seen S H F P) := fun b o e => by
  by_cases c : ∃ i, P i ∧ b ∈ F i
  · obtain ⟨i, _, hi⟩ := c
    rw [h.free i b hi] at e; cases e
  · rw [seen_out c]; exact e
theorem EnvR.seen_le (h : EnvR K H S σ ρ F) : In (seen S H F P) H := ⟨fun b o e => by
  by_cases c : ∃ i, P i ∧ b ∈ F i
  · rw [seen_in c] at e; exact e
  · rw [seen_out c] at e; exact h.sub b o e, fun b ps e => by
  by_cases c : ∃ i, P i ∧ b ∈ F i
  · rw [seen_in c] at e
    obtain ⟨i, _, hi⟩ := c
    obtain ⟨⟨vs, e2⟩, _⟩ := h.lst ⟨i, hi⟩
    rw [e2] at e; cases e
  · rw [seen_out c] at e; exact h.sub.nt b ps e, h.sub.tk⟩
theorem lsts_rp {dss : List (List PyData)} {bs : List Addr} (h : lstsAt K H S dss bs) (hs : Sub S S') (hb : ∀ b ∈ bs, S' b = H b) : RpA K S' (dss.map PyData.list) (bs.map V.ref) := by
  induction dss generalizing bs with
  | nil => cases bs with
    | nil => exact RpA.nil
    | cons => cases h
  | cons ds dss ih => cases bs with
    | nil => cases h
    | cons b bs =>
      obtain ⟨⟨ws, e, q⟩, h2⟩ := h
      exact RpA.cons (Rp.lst (by rw [hb b List.mem_cons_self]; exact e) (q.sub hs)) (ih h2 fun c hc => hb c (List.mem_cons_of_mem _ hc))
/-- the slots at P and those that own nothing are there as data -/
theorem EnvR.shr (h : EnvR K H S σ ρ F) {ρ' : Env} (hρ : ∀ i s d, ρ'[i]? = some s → s.val = some d → ∃ s', ρ[i]? = some s' ∧ s'.val = some d ∧ (P i ∨ F i = [])) : ShR K (seen S H F P) σ ρ' := by
  intro i s d e1 e2
  obtain ⟨s', e3, e4, hp⟩ := hρ i s d e1 e2
  have q := h.slot i s' e3
  have sb := h.seen_sub (P := P)
  have at_ : ∀ a ∈ F i, seen S H F P a = H a := fun a ha => by
    rcases hp with hp | hp
    · exact seen_in ⟨i, hp, ha⟩
    · rw [hp] at ha; cases ha
  cases s' with
  | un => cases e4
  | sh d' =>
    cases e4
    obtain ⟨_, v, ev, rv⟩ := q
    exact ⟨v, ev, Rp.sub sb d v rv⟩
  | o1 ds =>
    cases e4
    obtain ⟨a, vs, ef, ev, eh, rv⟩ := q
    exact ⟨.ref a, ev, Rp.lst (by rw [at_ a (by rw [ef]; simp)]; exact eh) (rv.sub sb)⟩
  | o2 dss =>
    cases e4
    obtain ⟨a, bs, ef, ev, eh, rv⟩ := q
    exact ⟨.ref a, ev, Rp.lst (by rw [at_ a (by rw [ef]; simp)]; exact eh) (lsts_rp rv sb fun b hb => at_ b (by rw [ef]; simp [hb]))⟩
/-- what was new beside what is owned at P -/
noncomputable def less (S' : Hp) (F : Fp) (P : Nat → Prop) : Hp := fun b => if ∃ i, P i ∧ b ∈ F i then none else S' b
theorem less_sub : Sub (less S' F P) S' := fun b o e => by
  unfold less at e
  split at e
  · cases e
  · exact e
theorem EnvR.less_up (h : EnvR K H S σ ρ F) (hs : Sub S S') : Sub S (less S' F P) := fun b o e => by
  unfold less
  rw [if_neg]
  · exact hs b o e
  · rintro ⟨i, _, hi⟩
    rw [h.free i b hi] at e; cases e
/-- behind an expression: the owned lists stand, the part that stays has grown -/
theorem EnvR.after (h : EnvR K H S σ ρ F) (g : Grow H (seen S H F P) H' S') : EnvR K H' (less S' F P) σ ρ F where
  sub := g.in_.less less_sub
  slot := fun i s e => (h.slot i s e).mono (fun b _ u q => g.h.lst q) (h.less_up (h.seen_sub.trans g.s))
  out := h.out
  nd := h.nd
  apart := h.apart
  free := fun i a ha => by
    unfold less
    by_cases c : ∃ j, P j ∧ a ∈ F j
    · rw [if_pos c]
    · rw [if_neg c]
      cases q : S' a with
      | none => rfl
      | some o =>
        have z := g.new a (by rw [seen_out c]; exact h.free i a ha) (by rw [q]; simp)
        obtain ⟨⟨vs, e⟩, _⟩ := h.lst ⟨i, ha⟩
        rw [e] at z; cases z
theorem SqT.less {a : Addr} {xs : List V} (h : EnvR K H S σ ρ F) (g : Grow H (seen S H F P) H' S') (q : SqT K S' a xs) : SqT K (less S' F P) a xs := by
  have key : ∀ o, S' a = some o → (∀ vs, o ≠ .lst vs) → DL.less S' F P a = some o := fun o e n => by
    unfold DL.less
    rw [if_neg]
    · exact e
    · rintro ⟨i, _, hi⟩
      obtain ⟨⟨vs, e2⟩, _⟩ := h.lst ⟨i, hi⟩
      have e3 := g.in_ a o e
      rw [g.h.lst e2] at e3
      cases e3
      exact n vs rfl
  rcases q with (q | ⟨o, q⟩) | q
  · exact .inl (.inl (key _ q fun vs z => by cases z))
  · exact .inl (.inr ⟨o, key _ q fun vs z => by cases z⟩)
  · exact .inr q
/-- a value that holds no list leaves nothing of the owned ones -/
theorem EnvR.pure_up (h : EnvR K H S σ ρ F) (g : Grow H (seen S H F P) H' S') {d : PyData} {v : V} (hp : pure? d = true) (hr : Rp K S' d v) : Rp K (less S' F P) d v := Rp.pure (fun a xs q => SqT.less h g q) d v hp hr
theorem EnvR.pures_up (h : EnvR K H S σ ρ F) (g : Grow H (seen S H F P) H' S') {d : List PyData} {v : List V} (hp : pures d = true) (hr : RpA K S' d v) : RpA K (less S' F P) d v := RpA.pure (fun a xs q => SqT.less h g q) d v hp hr
end

/-! ### what a statement may change -/
structure Chg (F : Fp) (H S H' S' : Hp) : Prop where
  keep : ∀ b o, H b = some o → ¬ InF F b → Tb H' b o
  tk : TkOk H → TkOk H'
  s : Sub S S'
  new : ∀ b, S b = none → S' b ≠ none → H b = none ∨ InF F b
def FpUp (F F' : Fp) (H : Hp) : Prop := ∀ b, InF F' b → H b = none ∨ InF F b
theorem Chg.refl {F : Fp} {H S : Hp} : Chg F H S H S := ⟨fun _ _ e _ => .inl e, id, Sub.refl _, fun _ a b => absurd a b⟩
theorem Chg.trans {F F1 : Fp} {H S H1 S1 H2 S2 : Hp} (a : Chg F H S H1 S1) (u : FpUp F F1 H) (b : Chg F1 H1 S1 H2 S2) : Chg F H S H2 S2 := by
  have nin : ∀ c o, H c = some o → ¬ InF F c → ¬ InF F1 c := fun c o e n z => by
    rcases u c z with q | q
    · rw [e] at q; cases q
    · exact n q
  refine ⟨fun c o e n => ?_, fun t => b.tk (a.tk t), a.s.trans b.s, fun c e n => ?_⟩
  · rcases a.keep c o e n with z | ⟨ps, more, e1, z⟩
    · exact b.keep c o z (nin c o e n)
    · subst e1
      rcases b.keep c _ z (nin c _ e n) with z2 | ⟨ps2, more2, e2, z2⟩
      · exact .inr ⟨ps, more, rfl, z2⟩
      · cases e2
        exact .inr ⟨ps, more ++ more2, rfl, by rw [z2, Array.append_assoc]⟩
  by_cases q : S1 c = none
  · rcases b.new c q n with z | z
    · by_cases i : InF F c
      · exact .inr i
      · cases r : H c with
        | none => exact .inl rfl
        | some o => exact absurd z (a.keep c o r i).ne
    · exact u c z
  · exact a.new c e q
theorem FpUp.trans {F F1 F2 : Fp} {H S H1 S1 : Hp} (a : Chg F H S H1 S1) (u : FpUp F F1 H) (v : FpUp F1 F2 H1) : FpUp F F2 H := fun b hb => by
  rcases v b hb with z | z
  · by_cases i : InF F b
    · exact .inr i
    · cases r : H b with
      | none => exact .inl rfl
      | some o => exact absurd z (a.keep b o r i).ne
  · exact u b z
theorem EnvR.chg {K : PySem.W.Frag} {H S H' S' : Hp} {σ : St} {ρ : Env} {F : Fp} {P : Nat → Prop} (h : EnvR K H S σ ρ F) (g : Grow H (seen S H F P) H' S') : Chg F H S H' (less S' F P) := by
  refine ⟨fun b o e _ => g.h.h b o e, g.h.t, h.less_up (h.seen_sub.trans g.s), fun b e n => ?_⟩
  by_cases c : ∃ i, P i ∧ b ∈ F i
  · exact .inr ⟨c.choose, c.choose_spec.2⟩
  · have : less S' F P b = S' b := if_neg c
    rw [this] at n
    exact .inl (g.new b (by rw [seen_out c]; exact e) n)

/-- all but the lists that are owned has stayed -/
structure Keep (F : Fp) (H H' : Hp) : Prop where
  keep : ∀ b o, H b = some o → ¬ InF F b → Tb H' b o
  tk : TkOk H → TkOk H'
/-- a statement's reading over data -/
def tSt (w : Wh) (f : Env → R Fl) : TS := fun D σ H => ∃ S ρ F, EnvR w.K H S σ ρ F ∧
  post (f ρ) (fun r => match r with
    | .next ρ' => ∀ σ' H' S' F', EnvR w.K H' S' σ' ρ' F' → Chg F H S H' S' → FpUp F F' H → σ'.length = σ.length → D.nx σ' H'
    | .ret d => ∀ v H' S', In S' H' → Chg F H S H' S' → Rp w.K S' d v → D.rt v H')
  (fun c => ∀ σ' H', Keep F H H' → w.W (w.cl c) none σ' H')
end DL
namespace DL
open PySem PySem.Spec PyProof.Rows L2
variable [Tabs]
open Classical

/-! ### what is wanted behind a statement -/
def stP (w : Wh) (D : Ends) (n : Nat) (H S : Hp) (F : Fp) (r : Fl) : Prop := match r with
  | .next ρ' => ∀ σ' H' S' F', EnvR w.K H' S' σ' ρ' F' → Chg F H S H' S' → FpUp F F' H → σ'.length = n → D.nx σ' H'
  | .ret d => ∀ v H' S', In S' H' → Chg F H S H' S' → Rp w.K S' d v → D.rt v H'
def stE (w : Wh) (H : Hp) (F : Fp) (c : Nat) : Prop := ∀ σ' H', Keep F H H' → w.W (w.cl c) none σ' H'
theorem tSt_def {w : Wh} {f : Env → R Fl} {D : Ends} {σ : St} {H : Hp} : tSt w f D σ H ↔ ∃ S ρ F, EnvR w.K H S σ ρ F ∧ post (f ρ) (stP w D σ.length H S F) (stE w H F) := by
  constructor
  · rintro ⟨S, ρ, F, env, h⟩
    refine ⟨S, ρ, F, env, post_mono h (fun r q => ?_) fun c q => q⟩
    cases r <;> exact q
  · rintro ⟨S, ρ, F, env, h⟩
    refine ⟨S, ρ, F, env, post_mono h (fun r q => ?_) fun c q => q⟩
    cases r <;> exact q
section
variable {w : Wh} {D : Ends} {n : Nat} {H S H1 S1 : Hp} {F F1 : Fp}
theorem stP.up (c : Chg F H S H1 S1) (u : FpUp F F1 H) {r : Fl} (h : stP w D n H S F r) : stP w D n H1 S1 F1 r := by
  cases r with
  | next ρ' => exact fun σ' H' S' F' e c2 u2 l => h σ' H' S' F' e (c.trans u c2) (FpUp.trans c u u2) l
  | ret d => exact fun v H' S' s c2 q => h v H' S' s (c.trans u c2) q
theorem Keep.of (c : Chg F H S H1 S1) (u : FpUp F F1 H) {H' : Hp} (k : Keep F1 H1 H') : Keep F H H' := ⟨fun b o q n => by
  have nin : ¬ InF F1 b := fun z => by
    rcases u b z with q2 | q2
    · rw [q] at q2; cases q2
    · exact n q2
  rcases c.keep b o q n with z | ⟨ps, more, e1, z⟩
  · exact k.keep b o z nin
  · subst e1
    rcases k.keep b _ z nin with z2 | ⟨ps2, more2, e2, z2⟩
    · exact .inr ⟨ps, more, rfl, z2⟩
    · cases e2
      exact .inr ⟨ps, more ++ more2, rfl, by rw [z2, Array.append_assoc]⟩, fun t => k.tk (c.tk t)⟩
theorem stE.up (c : Chg F H S H1 S1) (u : FpUp F F1 H) {e : Nat} (h : stE w H F e) : stE w H1 F1 e := fun σ' H' k => h σ' H' (k.of c u)
/-- on with the rest -/
theorem go_on {f : Env → R Fl} {σ σ1 : St} {ρ1 : Env} (env : EnvR w.K H1 S1 σ1 ρ1 F1) (c : Chg F H S H1 S1) (u : FpUp F F1 H) (l : σ1.length = σ.length)
    (h : post (f ρ1) (stP w D σ.length H S F) (stE w H F)) : tSt w f D σ1 H1 :=
  tSt_def.mpr ⟨S1, ρ1, F1, env, post_mono h (fun r q => by rw [l]; exact q.up c u) fun e q => q.up c u⟩
theorem stE.e {σ : St} {c : Nat} (h : stE w H F c) : w.E σ H c := fun H' s => h σ H' ⟨fun b o q _ => s.h b o q, s.t⟩
end

/-! ### storing -/
def clr (F : Fp) (i : Nat) : Fp := fun j => if j = i then [] else F j
def put (F : Fp) (i : Nat) (l : List Addr) : Fp := fun j => if j = i then l else F j
section
variable {K : PySem.W.Frag} {H S : Hp} {σ : St} {ρ : Env} {F : Fp}
theorem EnvR.store (h : EnvR K H S σ ρ F) {i : Nat} {v : V} {s : Sl} {l : List Addr} (hl : i < σ.length) (hs : SlR K H S (some (some v)) s l) (hnd : l.Nodup) (hap : ∀ a ∈ l, ∀ j, j ≠ i → a ∉ F j) (hf : ∀ a ∈ l, S a = none) (hρ : i < ρ.length ∨ l = []) :
    EnvR K H S (σ.set i (some v)) (ρ.set i s) (put F i l) where
  sub := h.sub
  slot := fun j s' e => by
    unfold put
    by_cases c : i = j
    · subst c
      rw [if_pos rfl, List.getElem?_set_self hl]
      by_cases q : i < ρ.length
      · rw [List.getElem?_set_self q] at e
        cases e
        exact hs
      · rw [List.getElem?_eq_none (by rw [List.length_set]; omega)] at e
        cases e
    · rw [if_neg (Ne.symm c), List.getElem?_set_ne c]
      rw [List.getElem?_set_ne c] at e
      exact h.slot j s' e
  out := fun j e => by
    unfold put
    by_cases c : i = j
    · subst c
      rw [if_pos rfl]
      rcases hρ with q | q
      · rw [List.getElem?_set_self q] at e; cases e
      · exact q
    · rw [if_neg (Ne.symm c)]
      rw [List.getElem?_set_ne c] at e
      exact h.out j e
  nd := fun j => by
    unfold put
    split
    · exact hnd
    · exact h.nd j
  apart := fun j k a ha hb => by
    unfold put at ha hb
    split at ha
    · split at hb
      · omega
      · rename_i c1 c2; exact absurd hb (hap a ha k c2)
    · split at hb
      · rename_i c1 c2; exact absurd ha (hap a hb j c1)
      · exact h.apart j k a ha hb
  free := fun j a ha => by
    unfold put at ha
    split at ha
    · exact hf a ha
    · exact h.free j a ha
theorem EnvR.setSh (h : EnvR K H S σ ρ F) {i : Nat} {v : V} {d : PyData} (hl : i < σ.length) (hr : Rp K S d v) : EnvR K H S (σ.set i (some v)) (ρ.set i (.sh d)) (put F i []) :=
  h.store hl ⟨rfl, v, rfl, hr⟩ List.nodup_nil (fun a ha => by cases ha) (fun a ha => by cases ha) (.inr rfl)
theorem EnvR.setO1 (h : EnvR K H S σ ρ F) {i : Nat} {p : Addr} {vs : List V} {ds : List PyData} (hl : i < σ.length) (hρ : i < ρ.length) (e : H p = some (.lst vs)) (hp : ∀ j, j ≠ i → p ∉ F j) (hs : S p = none) (hr : RpA K S ds vs) : EnvR K H S (σ.set i (some (.ref p))) (ρ.set i (.o1 ds)) (put F i [p]) :=
  h.store hl ⟨p, vs, rfl, rfl, e, hr⟩ (by simp) (fun a ha j hj => by
    have : a = p := by simpa using ha
    subst this; exact hp j hj) (fun a ha => by
    have : a = p := by simpa using ha
    subst this; exact hs) (.inl hρ)
theorem put_up {i : Nat} : FpUp F (put F i []) H := fun b ⟨j, hj⟩ => by
  unfold put at hj
  split at hj
  · cases hj
  · exact .inr ⟨j, hj⟩
theorem put_new {i : Nat} {p : Addr} (n : H p = none) : FpUp F (put F i [p]) H := fun b ⟨j, hj⟩ => by
  unfold put at hj
  split at hj
  · have : b = p := by simpa using hj
    subst this; exact .inl n
  · exact .inr ⟨j, hj⟩
theorem EnvR.lenρ (h : EnvR K H S σ ρ F) {i : Nat} {a : Addr} (ha : a ∈ F i) : i < ρ.length := by
  by_cases c : i < ρ.length
  · exact c
  · rw [h.out i (List.getElem?_eq_none (by omega))] at ha; cases ha
theorem EnvR.all (h : EnvR K H S σ ρ F) : ShR K (seen S H F fun _ => True) σ ρ := h.shr fun i s d e1 e2 => ⟨s, e1, e2, .inl trivial⟩
end

/-! ### the rules -/
abbrev SndS (X : Cx) (cl : Nat → Value) (W : WX) (sts : List Stmt) (g : Env → R Fl) : Prop := PSs X sts (tSt (wh X cl W) g)
theorem pss_impL {X : Cx} {st : List Stmt} {t t' : TS} (h : PSs X st t) (hi : ∀ D σ H, σ.length = X.N.length → t' D σ H → t D σ H) : PSs X st t' := ⟨fun pins s σ H D I q => h.run pins s σ H D I (hi D σ H I.len q)⟩
theorem post_if2 {α : Type} {c : Prop} [Decidable c] {a : R α} {P : α → Prop} {E : Nat → Prop} (h : post (if c then a else R.bad) P E) : c ∧ post a P E := by
  by_cases q : c
  · rw [if_pos q] at h; exact ⟨q, h⟩
  · rw [if_neg q] at h; exact h.elim
section
variable {X : Cx} {cl : Nat → Value} {W : WX} {st : Stmt} {rest body other : List Stmt} {e a b c : Expr} {f fa fb fc : Env → R PyData} {gk ga gb : Env → R Fl} {pos : Pos} {i : Nat}
theorem ss_nil : SndS X cl W [] fun ρ => .ok (.next ρ) := pss_imp pss_nil fun D σ H h => by
  obtain ⟨S, ρ, F, env, h⟩ := tSt_def.mp h
  exact h σ H S F env Chg.refl (fun b hb => .inr hb) rfl
theorem td_all {S : Hp} {ρ : Env} {F : Fp} {σ : St} {H : Hp} {Q : VK} {P : PyData → Prop} (env : EnvR X.K H S σ ρ F) (h : post (f ρ) P (stE (wh X cl W) H F))
    (hP : ∀ d v H' S', P d → Grow H (seen S H F fun _ => True) H' S' → Rp X.K S' d v → Q v H') : tD (wh X cl W) f σ H Q :=
  ⟨_, ρ, env.seen_le, env.all, post_mono h (fun d p v H' S' g q => hP d v H' S' p g q) fun _ z => z.e⟩
theorem ss_set_p (hi : i < X.N.length) (asn : PS X st (tAsg (tD (wh X cl W) f) (gName i))) (hk : SndS X cl W rest gk) :
    SndS X cl W (st :: rest) fun ρ => (f ρ).bind fun d => if pure? d then gk (ρ.set i (.sh d)) else .bad := by
  refine pss_impL (pss_cons asn hk) fun D σ H hl h => ?_
  obtain ⟨S, ρ, F, env, h⟩ := tSt_def.mp h
  rw [post_bind] at h
  refine td_all env h fun d v H' S' p g q => ?_
  obtain ⟨hp, p⟩ := post_if2 p
  exact go_on ((env.after g).setSh (by rw [hl]; exact hi) (env.pure_up g hp q)) (env.chg g) put_up (by simp) p
theorem ss_set_f (hi : i < X.N.length) (asn : PS X st (tAsg (tDF (wh X cl W) f) (gName i))) (hk : SndS X cl W rest gk) :
    SndS X cl W (st :: rest) fun ρ => (f ρ).bind fun d => (match d with
      | .list ds => if decide (i < ρ.length) && pures ds then gk (ρ.set i (.o1 ds)) else .bad
      | _ => .bad) := by
  refine pss_impL (pss_cons asn hk) fun D σ H hl h => ?_
  obtain ⟨S, ρ, F, env, h⟩ := tSt_def.mp h
  rw [post_bind] at h
  refine ⟨_, ρ, env.seen_le, env.all, post_mono h (fun d p => ?_) fun _ z => z.e⟩
  cases d <;> try exact p.elim
  rename_i ds
  intro q vs H' S' g e1 n s r
  obtain ⟨hp, p⟩ := post_if2 p
  simp only [Bool.and_eq_true, decide_eq_true_eq] at hp
  have hq : ∀ j, q ∉ F j := fun j hj => by
    obtain ⟨⟨_, z⟩, _⟩ := env.lst ⟨j, hj⟩
    rw [n] at z; cases z
  have e2 : less S' F (fun _ => True) q = none := by
    cases z : less S' F (fun _ => True) q with
    | none => rfl
    | some o => rw [less_sub q o z] at s; cases s
  exact go_on ((env.after g).setO1 (by rw [hl]; exact hi) hp.1 e1 (fun j _ => hq j) e2 (env.pures_up g hp.2 r)) (env.chg g) (put_new n) (by simp) p
end

/-! ### lists given up -/
section
variable {K : PySem.W.Frag} {H S H' S' : Hp} {σ : St} {ρ : Env} {F : Fp} {P : Nat → Prop}
omit [Tabs] in
theorem hideAt_get {fz : List Nat} : ∀ {ρ : Env} {n i : Nat} {s : Sl} {d : PyData}, (hideAt fz n ρ)[i]? = some s → s.val = some d → ∃ s', ρ[i]? = some s' ∧ s'.val = some d ∧ (n + i ∈ fz ∨ ∃ d, s' = .sh d)
  | [], n, i, s, d, h, _ => by simp [hideAt] at h
  | s0 :: r, n, i, s, d, h, hv => by
    cases i with
    | zero =>
      simp only [hideAt, List.getElem?_cons_zero, Option.some.injEq] at h
      refine ⟨s0, rfl, ?_⟩
      cases s0 with
      | un => subst h; cases hv
      | sh d' => subst h; exact ⟨hv, .inr ⟨_, rfl⟩⟩
      | o1 ds =>
        dsimp only at h
        split at h
        · rename_i c; subst h; exact ⟨hv, .inl (by simpa using c)⟩
        · subst h; cases hv
      | o2 ds =>
        dsimp only at h
        split at h
        · rename_i c; subst h; exact ⟨hv, .inl (by simpa using c)⟩
        · subst h; cases hv
    | succ i =>
      simp only [hideAt, List.getElem?_cons_succ] at h
      obtain ⟨s', e1, e2, e3⟩ := hideAt_get h hv
      refine ⟨s', by simpa using e1, e2, ?_⟩
      rcases e3 with z | z
      · exact .inl (by have e : n + (i + 1) = n + 1 + i := by omega
                       rw [e]; exact z)
      · exact .inr z
theorem EnvR.hid (h : EnvR K H S σ ρ F) (fz : List Nat) : ShR K (seen S H F (· ∈ fz)) σ (hideAt fz 0 ρ) := h.shr fun i s d e1 e2 => by
  obtain ⟨s', q1, q2, q3⟩ := hideAt_get e1 e2
  refine ⟨s', q1, q2, ?_⟩
  rcases q3 with z | ⟨d, z⟩
  · exact .inl (by simpa using z)
  · subst z
    exact .inr (h.slot i _ q1).1
omit [Tabs] in
theorem give_get {fz : List Nat} {i : Nat} : (give fz ρ)[i]? = if i ∈ fz then (ρ[i]?).map giveUp else ρ[i]? := by
  induction fz with
  | nil => simp [give]
  | cons j r ih =>
    unfold give
    cases e : ρ[j]? with
    | none =>
      dsimp only
      rw [ih]
      by_cases c : i = j
      · subst c; simp [e]
      · simp [c]
    | some s =>
      dsimp only
      have hl : (give r ρ).length = ρ.length := by
        clear ih e
        induction r with
        | nil => rfl
        | cons k r ih =>
          unfold give
          split
          · rw [List.length_set]; exact ih
          · exact ih
      by_cases c : j = i
      · subst c
        have hj : j < ρ.length := (List.getElem?_eq_some_iff.mp e).1
        rw [List.getElem?_set_self (by rw [hl]; exact hj), if_pos List.mem_cons_self, e]
        rfl
      · rw [List.getElem?_set_ne c, ih]
        by_cases q : i ∈ r
        · rw [if_pos q, if_pos (List.mem_cons_of_mem _ q)]
        · rw [if_neg q, if_neg (by simp; exact ⟨fun z => c z.symm, q⟩)]
omit [Tabs] in
theorem give_length {fz : List Nat} : (give fz ρ).length = ρ.length := by
  induction fz with
  | nil => rfl
  | cons k r ih =>
    unfold give
    split
    · rw [List.length_set]; exact ih
    · exact ih
def drp (F : Fp) (fz : List Nat) : Fp := fun i => if i ∈ fz then [] else F i
theorem drp_up {fz : List Nat} : FpUp F (drp F fz) H := fun b ⟨j, hj⟩ => by
  unfold drp at hj
  split at hj
  · cases hj
  · exact .inr ⟨j, hj⟩
theorem EnvR.given (h : EnvR K H S σ ρ F) {fz : List Nat} (g : Grow H (seen S H F (· ∈ fz)) H' S') : EnvR K H' S' σ (give fz ρ) (drp F fz) where
  sub := g.in_
  slot := fun i s e => by
    rw [give_get] at e
    unfold drp
    by_cases c : i ∈ fz
    · rw [if_pos c] at e ⊢
      cases q : ρ[i]? with
      | none => rw [q] at e; cases e
      | some s0 =>
        rw [q] at e
        have e : giveUp s0 = s := Option.some.inj e
        subst e
        unfold giveUp
        cases v : s0.val with
        | none => exact rfl
        | some d =>
          have sh : ShR K (seen S H F (· ∈ fz)) σ ρ ∨ True := .inr trivial
          have one : ShR K (seen S H F (· ∈ fz)) σ ((List.replicate i Sl.un) ++ [s0]) := h.shr fun j s d' e1 e2 => by
            by_cases cj : j = i
            · subst cj
              rw [List.getElem?_append_right (by simp)] at e1
              simp at e1
              subst e1
              exact ⟨s0, q, e2, .inl c⟩
            · by_cases lj : j < i
              · rw [List.getElem?_append_left (by simpa using lj), List.getElem?_replicate] at e1
                rw [if_pos lj] at e1
                cases e1
                cases e2
              · rw [List.getElem?_eq_none (by simp; omega)] at e1
                cases e1
          obtain ⟨u, h1, h2⟩ := one i s0 d (by rw [List.getElem?_append_right (by simp)]; simp) v
          exact ⟨rfl, u, h1, Rp.sub g.s d u h2⟩
    · rw [if_neg c] at e ⊢
      exact (h.slot i s e).mono (fun b _ u q => g.h.lst q) (h.seen_sub.trans g.s)
  out := fun i e => by
    unfold drp
    by_cases c : i ∈ fz
    · rw [if_pos c]
    · rw [if_neg c]
      rw [give_get, if_neg c] at e
      exact h.out i e
  nd := fun i => by
    unfold drp
    split
    · exact List.nodup_nil
    · exact h.nd i
  apart := fun i j a ha hb => by
    unfold drp at ha hb
    split at ha
    · cases ha
    · split at hb
      · cases hb
      · exact h.apart i j a ha hb
  free := fun i a ha => by
    unfold drp at ha
    split at ha
    · cases ha
    · rename_i c
      cases q : S' a with
      | none => rfl
      | some o =>
        have no : ¬ ∃ j, j ∈ fz ∧ a ∈ F j := fun ⟨j, hj, hm⟩ => c (by rw [h.apart i j a ha hm]; exact hj)
        have z := g.new a (by rw [seen_out no]; exact h.free i a ha) (by rw [q]; simp)
        obtain ⟨⟨vs, e⟩, _⟩ := h.lst ⟨i, ha⟩
        rw [e] at z; cases z
theorem EnvR.chgZ (h : EnvR K H S σ ρ F) (g : Grow H (seen S H F P) H' S') : Chg F H S H' S' := by
  refine ⟨fun b o e _ => g.h.h b o e, g.h.t, h.seen_sub.trans g.s, fun b e n => ?_⟩
  by_cases c : ∃ i, P i ∧ b ∈ F i
  · exact .inr ⟨c.choose, c.choose_spec.2⟩
  · exact .inl (g.new b (by rw [seen_out c]; exact e) n)
end
section
variable {X : Cx} {cl : Nat → Value} {W : WX} {st : Stmt} {rest body other : List Stmt} {e a b c : Expr} {f fa fb fc : Env → R PyData} {gk ga gb : Env → R Fl} {pos : Pos} {i : Nat}
theorem FpUp.put {F F1 : Fp} {H : Hp} {i : Nat} (u : FpUp F F1 H) : FpUp F (put F1 i []) H := fun b ⟨j, hj⟩ => by
  unfold DL.put at hj
  split at hj
  · cases hj
  · exact u b ⟨j, hj⟩
theorem FpUp.putN {F F1 : Fp} {H : Hp} {i : Nat} {p : Addr} (u : FpUp F F1 H) (n : H p = none) : FpUp F (DL.put F1 i [p]) H := fun b ⟨j, hj⟩ => by
  unfold DL.put at hj
  split at hj
  · have : b = p := by simpa using hj
    subst this; exact .inl n
  · exact u b ⟨j, hj⟩
theorem ss_set_z (fz : List Nat) (hi : i < X.N.length) (asn : PS X st (tAsg (tD (wh X cl W) f) (gName i))) (hk : SndS X cl W rest gk) :
    SndS X cl W (st :: rest) fun ρ => (f (hideAt fz 0 ρ)).bind fun d => gk ((give fz ρ).set i (.sh d)) := by
  refine pss_impL (pss_cons asn hk) fun D σ H hl h => ?_
  obtain ⟨S, ρ, F, env, h⟩ := tSt_def.mp h
  rw [post_bind] at h
  refine ⟨_, hideAt fz 0 ρ, env.seen_le, env.hid fz, post_mono h (fun d p v H' S' g q => ?_) fun _ z => z.e⟩
  exact go_on ((env.given g).setSh (by rw [hl]; exact hi) q) (env.chgZ g) (FpUp.put drp_up) (by simp) p
theorem ss_set_fz (fz : List Nat) (hi : i < X.N.length) (asn : PS X st (tAsg (tDF (wh X cl W) f) (gName i))) (hk : SndS X cl W rest gk) :
    SndS X cl W (st :: rest) fun ρ => (f (hideAt fz 0 ρ)).bind fun d => (match d with
      | .list ds => if i < ρ.length then gk ((give fz ρ).set i (.o1 ds)) else .bad
      | _ => .bad) := by
  refine pss_impL (pss_cons asn hk) fun D σ H hl h => ?_
  obtain ⟨S, ρ, F, env, h⟩ := tSt_def.mp h
  rw [post_bind] at h
  refine ⟨_, hideAt fz 0 ρ, env.seen_le, env.hid fz, post_mono h (fun d p => ?_) fun _ z => z.e⟩
  cases d <;> try exact p.elim
  intro q vs H' S' g e1 n s r
  obtain ⟨hp, p⟩ := post_if2 p
  have hq : ∀ j, q ∉ drp F fz j := fun j hj => by
    rcases drp_up (F := F) (H := H) q ⟨j, hj⟩ with z | z
    · obtain ⟨_, e⟩ := (env.given g).lst ⟨j, hj⟩
      unfold drp at hj
      split at hj
      · cases hj
      · obtain ⟨⟨_, z2⟩, _⟩ := env.lst ⟨j, hj⟩
        rw [n] at z2; cases z2
    · obtain ⟨⟨_, z2⟩, _⟩ := env.lst z
      rw [n] at z2; cases z2
  exact go_on ((env.given g).setO1 (by rw [hl]; exact hi) (by rw [give_length]; exact hp) e1 (fun j _ => hq j) s r) (env.chgZ g) (FpUp.putN drp_up n) (by simp) p
end
end DL
namespace DL
open PySem PySem.Spec PyProof.Rows L2
variable [Tabs]
open Classical

def putA (F : Fp) : List Nat → Fp
  | [] => F
  | i :: is => putA (put F i []) is
theorem putA_up {H : Hp} : ∀ {is : List Nat} {F F0 : Fp}, FpUp F0 F H → FpUp F0 (putA F is) H
  | [], _, _, u => u
  | i :: is, F, F0, u => putA_up (is := is) (FpUp.put u)
theorem EnvR.setMany {K : PySem.W.Frag} {H S : Hp} : ∀ {is : List Nat} {ds : List PyData} {vs : List V} {σ : St} {ρ : Env} {F : Fp}, EnvR K H S σ ρ F → RpA K S ds vs → ds.length = is.length → (∀ i ∈ is, i < σ.length) → EnvR K H S (setAll is vs σ) (DL.setMany is ds ρ) (putA F is)
  | [], [], vs, σ, ρ, F, h, r, _, _ => by
    simp only [RpA] at r
    subst r
    simpa only [setAll, DL.setMany, putA] using h
  | [], _ :: _, _, _, _, _, _, _, e, _ => by simp at e
  | _ :: _, [], _, _, _, _, _, _, e, _ => by simp at e
  | i :: is, d :: ds, vs, σ, ρ, F, h, r, e, hl => by
    simp only [RpA] at r
    obtain ⟨v, r', e1, q1, q2⟩ := r
    subst e1
    simp only [setAll, DL.setMany, putA]
    exact EnvR.setMany (h.setSh (hl i List.mem_cons_self) q1) q2 (by simpa using e) fun j hj => by rw [List.length_set]; exact hl j (List.mem_cons_of_mem _ hj)
omit [Tabs] in
theorem bindMany_set : ∀ {is : List Nat} {ds : List PyData} {ρ ρ' : Env}, bindMany is ds ρ = some ρ' → ρ' = setMany is ds ρ
  | [], [], _, _, e => by simp only [bindMany, Option.some.injEq] at e; subst e; simp only [setMany]
  | [], _ :: _, _, _, e => by simp [bindMany] at e
  | _ :: _, [], _, _, e => by simp [bindMany] at e
  | i :: is, d :: ds, ρ, ρ', e => by simp only [bindMany] at e; simp only [setMany]; exact bindMany_set e
/-- a target takes a datum, beside lists of one's own -/
theorem gT_env {K : PySem.W.Frag} {S H : Hp} {t : Tg} {d : PyData} {v : V} {σ : St} {ρ ρ' : Env} {F : Fp} {Q : St → Hp → Prop} (h : EnvR K H S σ ρ F) (hl : ∀ i ∈ t.all, i < σ.length) (hr : Rp K S d v) (e : bindT t d ρ = some ρ')
    (hQ : ∀ σ' F', EnvR K H S σ' ρ' F' → FpUp F F' H → σ'.length = σ.length → Q σ' H) : gT K t v σ H Q := by
  cases t with
  | one i =>
    simp only [bindT, Option.some.injEq] at e
    subst e
    exact hQ _ _ (h.setSh (hl i (by simp [Tg.all])) hr) put_up (by simp)
  | many is =>
    cases d <;> simp only [bindT] at e <;> try cases e
    rename_i ds
    simp only [Rp] at hr
    obtain ⟨a, vs, rfl, ha, ra⟩ := hr
    have e2 := bindMany_set e
    subst e2
    have hlen := bindMany_length e
    exact ⟨a, vs, rfl, SqT.sub h.sub.sub ha, by rw [ra.length, hlen], hQ _ _ (h.setMany ra hlen hl) (putA_up fun b hb => .inr hb) (setAll_length _ _ _)⟩
section
variable {X : Cx} {cl : Nat → Value} {W : WX} {st : Stmt} {rest body other : List Stmt} {e a b c tg : Expr} {es : List Expr} {f fa fb fc : Env → R PyData} {gk ga gb : Env → R Fl} {pos : Pos} {i j l : Nat}
theorem tda_all {S : Hp} {ρ : Env} {F : Fp} {σ : St} {H : Hp} {Q : List V → Hp → Prop} {P : PyData → Prop} (env : EnvR X.K H S σ ρ F) (h : post (f ρ) P (stE (wh X cl W) H F))
    (ht : ∀ d, P d → ∃ ds, d = .tuple ds) (hP : ∀ ds vs H' S', P (.tuple ds) → Grow H (seen S H F fun _ => True) H' S' → RpA X.K S' ds vs → Q vs H') : tDA (wh X cl W) f σ H Q :=
  ⟨_, ρ, env.seen_le, env.all, post_mono h (fun d p => by
    obtain ⟨ds, e⟩ := ht d p
    subst e
    exact fun vs H' S' g q => hP ds vs H' S' p g q) fun _ z => z.e⟩
/-- names = values, side by side: kept as they are -/
def parD (is : List Nat) (gk : Env → R Fl) (ρ : Env) (x : PyData) : R Fl := match x with
  | .tuple ds => if pures ds && decide (ds.length = is.length) then gk (setMany is ds ρ) else .bad
  | _ => .bad
theorem ss_par {is : List Nat} {t : TS} (hl : ∀ i ∈ is, i < X.N.length) (asn : PS X st t) (ha : ∀ D σ H, tDA (wh X cl W) f σ H (fun vs H1 => vs.length = is.length ∧ D.nx (setAll is vs σ) H1) → t D σ H) (hk : SndS X cl W rest gk) :
    SndS X cl W (st :: rest) fun ρ => (f ρ).bind (parD is gk ρ) := by
  refine pss_impL (pss_cons asn hk) fun D σ H hlen h => ?_
  obtain ⟨S, ρ, F, env, h⟩ := tSt_def.mp h
  rw [post_bind] at h
  refine ha _ _ _ (tda_all env h (fun d p => ?_) fun ds vs H' S' p g q => ?_)
  · cases d <;> first | exact p.elim | exact ⟨_, rfl⟩
  · obtain ⟨hp, p⟩ := post_if2 p
    simp only [Bool.and_eq_true, decide_eq_true_eq] at hp
    refine ⟨by rw [q.length]; exact hp.2, ?_⟩
    exact go_on ((env.after g).setMany (env.pures_up g hp.1 q) hp.2 fun i hi => by rw [hlen]; exact hl i hi) (env.chg g) (putA_up fun b hb => .inr hb) (setAll_length _ _ _) p
/-- names = values, side by side: with the slots fz given up -/
def parZ (fz is : List Nat) (gk : Env → R Fl) (ρ : Env) (x : PyData) : R Fl := match x with
  | .tuple ds => if decide (ds.length = is.length) then gk (setMany is ds (give fz ρ)) else .bad
  | _ => .bad
theorem ss_parz (fz : List Nat) {is : List Nat} {t : TS} (hl : ∀ i ∈ is, i < X.N.length) (asn : PS X st t) (ha : ∀ D σ H, tDA (wh X cl W) f σ H (fun vs H1 => vs.length = is.length ∧ D.nx (setAll is vs σ) H1) → t D σ H) (hk : SndS X cl W rest gk) :
    SndS X cl W (st :: rest) fun ρ => (f (hideAt fz 0 ρ)).bind (parZ fz is gk ρ) := by
  refine pss_impL (pss_cons asn hk) fun D σ H hlen h => ?_
  obtain ⟨S, ρ, F, env, h⟩ := tSt_def.mp h
  rw [post_bind] at h
  refine ha _ _ _ ⟨_, hideAt fz 0 ρ, env.seen_le, env.hid fz, post_mono h (fun d p => ?_) fun _ z => z.e⟩
  cases d <;> try exact p.elim
  intro vs H' S' g q
  obtain ⟨hp, p⟩ := post_if2 p
  have hp := of_decide_eq_true hp
  refine ⟨by rw [q.length]; exact hp, ?_⟩
  exact go_on ((env.given g).setMany q hp fun i hi => by rw [hlen]; exact hl i hi) (env.chgZ g) (putA_up drp_up) (setAll_length _ _ _) p
theorem par2 {D : Ends} {σ : St} {H : Hp} (h : tDA (wh X cl W) f σ H (fun vs H1 => vs.length = [i, j].length ∧ D.nx (setAll [i, j] vs σ) H1)) : tPar i j (tDA (wh X cl W) f) D σ H := by
  obtain ⟨S, ρ, hS, hr, h⟩ := h
  refine ⟨S, ρ, hS, hr, post_mono h (fun d p => ?_) fun _ z => z⟩
  cases d <;> try exact p.elim
  intro vs H' S' g q
  obtain ⟨e, p⟩ := p vs H' S' g q
  match vs, e, p with
  | [v, w], _, p => exact ⟨v, w, rfl, p⟩
theorem par3 {D : Ends} {σ : St} {H : Hp} (h : tDA (wh X cl W) f σ H (fun vs H1 => vs.length = [i, j, l].length ∧ D.nx (setAll [i, j, l] vs σ) H1)) : tPar3 i j l (tDA (wh X cl W) f) D σ H := by
  obtain ⟨S, ρ, hS, hr, h⟩ := h
  refine ⟨S, ρ, hS, hr, post_mono h (fun d p => ?_) fun _ z => z⟩
  cases d <;> try exact p.elim
  intro vs H' S' g q
  obtain ⟨e, p⟩ := p vs H' S' g q
  match vs, e, p with
  | [u, v, w], _, p => exact ⟨u, v, w, rfl, p⟩
/-- target = value -/
def unpD (t : Tg) (gk : Env → R Fl) (ρ : Env) (d : PyData) : R Fl := if pure? d then (match bindT t d ρ with
  | some ρ' => gk ρ'
  | none => .bad) else .bad
theorem ss_unp {t : Tg} (hl : ∀ i ∈ t.all, i < X.N.length) (asn : PS X st (tAsg (tD (wh X cl W) f) (gT X.K t))) (hk : SndS X cl W rest gk) :
    SndS X cl W (st :: rest) fun ρ => (f ρ).bind (unpD t gk ρ) := by
  refine pss_impL (pss_cons asn hk) fun D σ H hlen h => ?_
  obtain ⟨S, ρ, F, env, h⟩ := tSt_def.mp h
  rw [post_bind] at h
  refine td_all env h fun d v H' S' p g q => ?_
  obtain ⟨hp, p⟩ := post_if2 p
  cases e : bindT t d ρ with
  | none => rw [e] at p; exact p.elim
  | some ρ' =>
    rw [e] at p
    exact gT_env (env.after g) (fun i hi => by rw [hlen]; exact hl i hi) (env.pure_up g hp q) e fun σ' F' env' u l => go_on env' (env.chg g) (fun b hb => (u b hb).imp (fun z => g.h.no z) id) l p
/-- target = value, with the slots fz given up -/
def unpZ (fz : List Nat) (t : Tg) (gk : Env → R Fl) (ρ : Env) (d : PyData) : R Fl := match bindT t d (give fz ρ) with
  | some ρ' => gk ρ'
  | none => .bad
theorem ss_unpz (fz : List Nat) {t : Tg} (hl : ∀ i ∈ t.all, i < X.N.length) (asn : PS X st (tAsg (tD (wh X cl W) f) (gT X.K t))) (hk : SndS X cl W rest gk) :
    SndS X cl W (st :: rest) fun ρ => (f (hideAt fz 0 ρ)).bind (unpZ fz t gk ρ) := by
  refine pss_impL (pss_cons asn hk) fun D σ H hlen h => ?_
  obtain ⟨S, ρ, F, env, h⟩ := tSt_def.mp h
  rw [post_bind] at h
  refine ⟨_, hideAt fz 0 ρ, env.seen_le, env.hid fz, post_mono h (fun d p v H' S' g q => ?_) fun _ z => z.e⟩
  unfold unpZ at p
  cases e : bindT t d (give fz ρ) with
  | none => rw [e] at p; exact p.elim
  | some ρ' =>
    rw [e] at p
    exact gT_env (env.given g) (fun i hi => by rw [hlen]; exact hl i hi) q e fun σ' F' env' u l => go_on env' (env.chgZ g) (FpUp.trans (env.chgZ g) drp_up fun b hb => by
      rcases u b hb with z | z
      · exact .inl z
      · exact .inr z) l p
theorem ss_expr (asn : PS X st (tDrop (tD (wh X cl W) f))) (hk : SndS X cl W rest gk) : SndS X cl W (st :: rest) fun ρ => (f ρ).bind fun _ => gk ρ := by
  refine pss_impL (pss_cons asn hk) fun D σ H hl h => ?_
  obtain ⟨S, ρ, F, env, h⟩ := tSt_def.mp h
  rw [post_bind] at h
  exact td_all env h fun d v H' S' p g q => go_on (env.after g) (env.chg g) (fun b hb => .inr hb) rfl p
theorem ss_ret (asn : PS X st (tRet (tD (wh X cl W) f))) : SndS X cl W (st :: rest) fun ρ => (f ρ).bind fun d => .ok (.ret d) := by
  refine pss_impL (pss_cons asn (pss_never (X := X) (sts := rest))) fun D σ H hl h => ?_
  obtain ⟨S, ρ, F, env, h⟩ := tSt_def.mp h
  rw [post_bind] at h
  exact td_all env h fun d v H' S' p g q => p v H' S' g.in_ (env.chgZ g) q
end
end DL
namespace DL
open PySem PySem.Spec PyProof.Rows L2
variable [Tabs]
open Classical

section
variable {K : PySem.W.Frag} {H S H' S' : Hp} {σ : St} {ρ : Env} {F : Fp} {P : Nat → Prop}
theorem EnvR.grow (h : EnvR K H S σ ρ F) (g : Grow H S H' S') : EnvR K H' S' σ ρ F where
  sub := g.in_
  slot := fun i s e => (h.slot i s e).mono (fun b _ u q => g.h.lst q) g.s
  out := h.out
  nd := h.nd
  apart := h.apart
  free := fun i a ha => by
    cases q : S' a with
    | none => rfl
    | some o =>
      have z := g.new a (h.free i a ha) (by rw [q]; simp)
      obtain ⟨⟨vs, e⟩, _⟩ := h.lst ⟨i, ha⟩
      rw [e] at z; cases z
theorem chg_grow (g : Grow H S H' S') : Chg F H S H' S' := ⟨fun b o e _ => g.h.h b o e, g.h.t, g.s, fun b e n => .inl (g.new b e n)⟩
/-- a list of one's own is changed -/
theorem EnvR.poke (h : EnvR K H S σ ρ F) {i : Nat} {ds ds' : List PyData} {a : Addr} {vs' : List V} (e : ρ[i]? = some (.o1 ds)) (ha : F i = [a]) (hσ : σ[i]? = some (some (.ref a))) (hr : RpA K S ds' vs') :
    EnvR K (upd H a (.lst vs')) S σ (ρ.set i (.o1 ds')) F where
  sub := by
    obtain ⟨⟨vs, e2⟩, e3⟩ := h.lst (a := a) ⟨i, by rw [ha]; simp⟩
    exact h.sub.poke e2 e3
  slot := fun j s q => by
    have hi : i < ρ.length := (List.getElem?_eq_some_iff.mp e).1
    by_cases c : i = j
    · subst c
      rw [List.getElem?_set_self hi] at q
      cases q
      exact ⟨a, vs', ha, hσ, upd_same, hr⟩
    · rw [List.getElem?_set_ne c] at q
      exact (h.slot j s q).mono (fun b hb u z => by
        rw [upd_ne (fun z2 => c (by subst z2; exact h.apart i j b (by rw [ha]; simp) hb))]
        exact z) (Sub.refl _)
  out := fun j q => by
    by_cases c : i = j
    · subst c
      have hi : i < ρ.length := (List.getElem?_eq_some_iff.mp e).1
      rw [List.getElem?_set_self hi] at q; cases q
    · rw [List.getElem?_set_ne c] at q
      exact h.out j q
  nd := h.nd
  apart := h.apart
  free := h.free
theorem chg_poke {i : Nat} {a : Addr} {vs vs' : List V} (ha : F i = [a]) (eh : H a = some (.lst vs)) : Chg F H S (upd H a (.lst vs')) S := ⟨fun b o e n => .inl (by
    rw [upd_ne (fun z => n (by subst z; exact ⟨i, by rw [ha]; simp⟩))]; exact e), fun t => t.upd (.inr ⟨vs, eh⟩) (fun ps z => by cases z), Sub.refl _, fun b e n => absurd e n⟩
theorem EnvR.own (h : EnvR K H S σ ρ F) {i : Nat} {ds : List PyData} (e : ρ[i]? = some (.o1 ds)) : ∃ a vs, F i = [a] ∧ σ[i]? = some (some (.ref a)) ∧ H a = some (.lst vs) ∧ RpA K S ds vs := h.slot i _ e
end
section
variable {w : Wh} {D : Ends} {n : Nat} {H S H1 S1 : Hp} {F F1 : Fp}
theorem go_onN {f : Env → R Fl} {σ1 : St} {ρ1 : Env} (env : EnvR w.K H1 S1 σ1 ρ1 F1) (c : Chg F H S H1 S1) (u : FpUp F F1 H) (l : σ1.length = n)
    (h : post (f ρ1) (stP w D n H S F) (stE w H F)) : tSt w f D σ1 H1 := by
  subst l
  exact go_on env c u rfl h
/-- one behind another -/
theorem st_seq {r : R Fl} {gk : Env → R Fl} (h : post (R.next r gk) (stP w D n H S F) (stE w H F)) : post r (stP w { D with nx := tSt w gk D } n H S F) (stE w H F) := by
  unfold R.next at h
  rw [post_bind] at h
  refine post_mono h (fun x q => ?_) fun _ z => z
  cases x with
  | next ρ' => exact fun σ' H' S' F' env c u l => go_onN env c u l q
  | ret d => exact fun v H' S' s c r => q v H' S' s c r
end
section
variable {X : Cx} {cl : Nat → Value} {W : WX} {st : Stmt} {rest body other : List Stmt} {e a b c tg : Expr} {es : List Expr} {f fa fb fc : Env → R PyData} {gk ga gb : Env → R Fl} {pos : Pos} {i j l : Nat}
def appD (i : Nat) (gk : Env → R Fl) (ρ : Env) (d : PyData) : R Fl := if pure? d then (match ρ[i]? with
  | some (.o1 ds) => if ds.length < big then gk (ρ.set i (.o1 (ds ++ [d]))) else .bad
  | _ => .bad) else .bad
theorem bigSz {n : Nat} (h : n < big) : n < sizeLine := Nat.lt_of_lt_of_le h bigLine
theorem ss_app {ta : TA} (asn : PS X st (tDrop (tBM X.K "list" rAppend (tVar i) ta))) (ht : ∀ σ H Q, tD (wh X cl W) f σ H (fun v H1 => Q [v] H1) → ta σ H Q) (hk : SndS X cl W rest gk) :
    SndS X cl W (st :: rest) fun ρ => match ρ[i]? with
      | some (.o1 _) => (f ρ).bind (appD i gk ρ)
      | _ => .bad := by
  refine pss_impL (pss_cons asn hk) fun D σ H hl h => ?_
  obtain ⟨S, ρ, F, env, h⟩ := tSt_def.mp h
  split at h <;> try exact h.elim
  rename_i ds0 e0
  rw [post_bind] at h
  obtain ⟨a, vs, ha, hσ, eh, er⟩ := env.own e0
  refine ⟨_, hσ, .inl ⟨rfl, vs, SqL.ofS eh⟩, ht _ _ _ (td_all env h fun d v H' S' p g q => ?_)⟩
  obtain ⟨hp, p⟩ := post_if2 p
  rw [e0] at p
  obtain ⟨hz, p⟩ := post_if2 p
  have env1 := env.after g
  have q1 := env.pure_up g hp q
  obtain ⟨a', vs', ha', hσ', eh', er'⟩ := env1.own e0
  have : a' = a := by rw [ha] at ha'; simpa using ha'.symm
  subst this
  refine ⟨_, vs', v, rfl, rfl, eh', by rw [er'.length]; exact bigSz hz, ?_⟩
  exact go_on (env1.poke e0 ha' hσ' (er'.append (RpA.cons q1 RpA.nil))) ((env.chg g).trans (fun b hb => .inr hb) (chg_poke ha' eh')) (fun b hb => .inr hb) rfl p
def stoD (i : Nat) (gk : Env → R Fl) (ρ : Env) (d j : PyData) : R Fl := match j, ρ[i]? with
  | .int j', some (.o1 ds) => (match L2.ixN ds.length j' with
    | some n => gk (ρ.set i (.o1 (ds.set n d)))
    | none => .bad)
  | _, _ => .bad
theorem stP.same {w : Wh} {D : Ends} {n : Nat} {H S H1 S1 : Hp} {F : Fp} (c : Chg F H S H1 S1) {r : R Fl} (h : post r (stP w D n H S F) (stE w H F)) : post r (stP w D n H1 S1 F) (stE w H1 F) :=
  post_mono h (fun _ z => z.up c fun b hb => .inr hb) fun _ z => z.up c fun b hb => .inr hb
theorem ss_sto (asn : PS X st (tAsg (tD (wh X cl W) f) (gSub (tVar i) (tD (wh X cl W) fa) rSetL))) (hk : SndS X cl W rest gk) :
    SndS X cl W (st :: rest) fun ρ => match ρ[i]? with
      | some (.o1 _) => (f ρ).bind fun d => if pure? d then (fa ρ).bind (stoD i gk ρ d) else .bad
      | _ => .bad := by
  refine pss_impL (pss_cons asn hk) fun D σ H hl h => ?_
  obtain ⟨S, ρ, F, env, h⟩ := tSt_def.mp h
  split at h <;> try exact h.elim
  rename_i ds0 e0
  rw [post_bind] at h
  refine td_all env h fun d v H1 S1 p g q => ?_
  obtain ⟨hp, p⟩ := post_if2 p
  have env1 := env.after g
  have q1 := env.pure_up g hp q
  rw [post_bind] at p
  obtain ⟨a0, vs0, ha0, hσ0, _, _⟩ := env1.own e0
  refine ⟨_, hσ0, ?_⟩
  have p' : post (fa ρ) (fun j => post (stoD i gk ρ d j) (stP (wh X cl W) D σ.length H S F) (stE (wh X cl W) H F)) (stE (wh X cl W) H1 F) := post_mono p (fun _ z => z) fun _ z => z.up (env.chg g) fun b hb => .inr hb
  refine td_all env1 p' fun jd jv H2 S2 p2 g2 q2 => ?_
  have env2 := env1.after g2
  have q3 : Rp X.K (DL.less S2 F fun _ => True) d v := Rp.sub (env1.less_up ((env1.seen_sub).trans g2.s)) d v q1
  unfold stoD at p2
  rw [e0] at p2
  cases jd <;> try exact p2.elim
  rename_i j'
  cases rp_int q2
  dsimp only at p2
  cases en : L2.ixN ds0.length j' with
  | none => rw [en] at p2; exact p2.elim
  | some n =>
    rw [en] at p2
    obtain ⟨a, vs, ha, hσ, eh, er⟩ := env2.own e0
    have : a0 = a := by rw [ha] at ha0; simpa using ha0.symm
    subst this
    refine ⟨_, vs, j', n, rfl, rfl, eh, by rw [er.length]; exact en, ?_⟩
    have c1 := (env.chg g).trans (fun b hb => .inr hb) (env1.chg g2)
    exact go_on (env2.poke e0 ha hσ (er.set n q3)) (c1.trans (fun b hb => .inr hb) (chg_poke ha eh)) (fun b hb => .inr hb) rfl p2
def augOp (o : Bop) (a b : Int) : Int := match o with
  | .add => a + b
  | _ => a - b
def augD (o : Bop) (i : Nat) (gk : Env → R Fl) (ρ : Env) (a : Int) (y : PyData) : R Fl := match y with
  | .int b => gk (ρ.set i (.sh (.int (augOp o a b))))
  | _ => .bad
theorem ss_aug {o : Bop} (hi : i < X.N.length) (asn : PS X st (tAug i (tD (wh X cl W) f) (ipI (augOp o)))) (hk : SndS X cl W rest gk) :
    SndS X cl W (st :: rest) fun ρ => match ρ[i]? with
      | some (.sh (.int a)) => (f ρ).bind (augD o i gk ρ a)
      | _ => .bad := by
  refine pss_impL (pss_cons asn hk) fun D σ H hl h => ?_
  obtain ⟨S, ρ, F, env, h⟩ := tSt_def.mp h
  split at h <;> try exact h.elim
  rename_i a e0
  rw [post_bind] at h
  obtain ⟨hF, v0, e1, r1⟩ := env.slot i _ e0
  cases rp_int r1
  refine ⟨_, e1, td_all env h fun d v H1 S1 p g q => ?_⟩
  cases d <;> try exact p.elim
  rename_i b
  cases rp_int q
  exact ⟨a, b, rfl, rfl, go_on ((env.after g).setSh (by rw [hl]; exact hi) (rpI _)) (env.chg g) put_up (by simp) p⟩
theorem ss_ite (asn : PS X st (tIfS (tDT (wh X cl W) fun ρ => (fc ρ).bind truth) (tSt (wh X cl W) ga) (tSt (wh X cl W) gb))) (hk : SndS X cl W rest gk) :
    SndS X cl W (st :: rest) fun ρ => ((fc ρ).bind truth).bind fun t => R.next (if t then ga ρ else gb ρ) gk := by
  refine pss_impL (pss_cons asn hk) fun D σ H hl h => ?_
  obtain ⟨S, ρ, F, env, h⟩ := tSt_def.mp h
  rw [post_bind] at h
  refine ⟨_, ρ, env.seen_le, env.all, post_mono h (fun t p H' S' g => ?_) fun _ z => z.e⟩
  have p := stP.same (env.chg g) (st_seq p)
  cases t with
  | true => exact tSt_def.mpr ⟨_, ρ, F, env.after g, p⟩
  | false => exact tSt_def.mpr ⟨_, ρ, F, env.after g, p⟩
theorem ss_for (fz : List Nat) {t : Tg} (ht : ∀ i ∈ t.all, i < X.N.length) (asn : PS X st (tFor (tDI (wh X cl W) f) (gT X.K t) (tSt (wh X cl W) gb))) (hk : SndS X cl W rest gk) :
    SndS X cl W (st :: rest) fun ρ => (f (hideAt fz 0 ρ)).bind fun x => (match x with
      | .list xs => R.next (forGo t gb xs (give fz ρ)) gk
      | _ => .bad) := by
  refine pss_impL (pss_cons asn hk) fun D σ H hl h => ?_
  obtain ⟨S, ρ, F, env, h⟩ := tSt_def.mp h
  rw [post_bind] at h
  refine ⟨_, hideAt fz 0 ρ, env.seen_le, env.hid fz, post_mono h (fun x p => ?_) fun _ z => z.e⟩
  cases x <;> try exact p.elim
  rename_i xs
  intro J H1 S1 g hJ
  let Wv : Nat → Nat → L2.St → Hp → Prop := fun k m σ' H' => m = xs.length - k ∧ k ≤ xs.length ∧ ∃ ρ' S' F', EnvR X.K H' S' σ' ρ' F' ∧ Sub S1 S' ∧ Chg F H S H' S' ∧ FpUp F F' H ∧ σ'.length = σ.length ∧
    post (R.next (forGo t gb (xs.drop k) ρ') gk) (stP (wh X cl W) D σ.length H S F) (stE (wh X cl W) H F)
  refine ⟨Wv, ⟨xs.length, by omega, Nat.zero_le _, give fz ρ, S1, drp F fz, env.given g, Sub.refl _, env.chgZ g, drp_up, rfl, by rw [List.drop_zero]; exact p⟩, ?_⟩
  rintro k m σ' H' ⟨em, hk', ρ', S', F', env', hs, c, u, l, q⟩
  by_cases hlt : k < xs.length
  · refine .inr ⟨hJ.go H' k (hs.trans env'.sub.sub) hlt, Wv (k + 1) (xs.length - (k + 1)), fun σ2 H2 w2 => ⟨_, by omega, w2⟩, fun v H2 hy => ?_⟩
    have hx : xs[k]? = some xs[k] := List.getElem?_eq_getElem hlt
    obtain ⟨S2, g2, hr⟩ := hJ.yld H' S' k v H2 xs[k] hs env'.sub hx hy
    rw [List.drop_eq_getElem_cons hlt] at q
    unfold forGo at q
    cases eb : bindT t xs[k] ρ' with
    | none => rw [eb] at q; exact q.elim
    | some ρ2 =>
      rw [eb] at q
      refine gT_env (env'.grow g2) (fun i hi => by rw [l, hl]; exact ht i hi) hr eb fun σ3 F3 env3 u3 l3 => ?_
      have cc : Chg F H S H2 S2 := c.trans u (chg_grow g2)
      have uu : FpUp F F3 H := FpUp.trans c u fun b hb => (u3 b hb).imp (fun z => g2.h.no z) id
      refine tSt_def.mpr ⟨S2, ρ2, F3, env3, ?_⟩
      have q : post (R.next ((gb ρ2).bind fun f => (match f with
        | .next ρ'' => forGo t gb (xs.drop (k + 1)) ρ''
        | .ret d => .ok (.ret d))) gk) (stP (wh X cl W) D σ.length H S F) (stE (wh X cl W) H F) := q
      unfold R.next at q
      rw [post_bind, post_bind] at q
      refine post_mono q (fun r z => ?_) fun _ z => z.up cc uu
      cases r with
      | ret d => exact fun v H4 S4 s4 c4 r4 => z v H4 S4 s4 (cc.trans uu c4) r4
      | next ρ4 =>
        intro σ4 H4 S4 F4 env4 c4 u4 l4
        refine ⟨rfl, hlt, ρ4, S4, F4, env4, hs.trans (g2.s.trans c4.s), cc.trans uu c4, FpUp.trans cc uu u4, by omega, ?_⟩
        unfold R.next
        rw [post_bind]
        exact z
  · have e : k = xs.length := by omega
    subst e
    refine .inl ⟨hJ.stop H' (hs.trans env'.sub.sub), ?_⟩
    rw [List.drop_length] at q
    exact go_onN env' c u l q
theorem ss_while (fuel : Nat) (asn : PS X st (tWhile (tDT (wh X cl W) fun ρ => (fc ρ).bind truth) (tSt (wh X cl W) gb))) (hk : SndS X cl W rest gk) :
    SndS X cl W (st :: rest) fun ρ => R.next (whileGo fc gb fuel ρ) gk := by
  refine pss_impL (pss_cons asn hk) fun D σ H hl h => ?_
  obtain ⟨S, ρ, F, env, h⟩ := tSt_def.mp h
  let Wv : Nat → L2.St → Hp → Prop := fun m σ' H' => ∃ ρ' S' F', EnvR X.K H' S' σ' ρ' F' ∧ Chg F H S H' S' ∧ FpUp F F' H ∧ σ'.length = σ.length ∧
    post (R.next (whileGo fc gb m ρ') gk) (stP (wh X cl W) D σ.length H S F) (stE (wh X cl W) H F)
  refine ⟨Wv, ⟨fuel, ρ, S, F, env, Chg.refl, fun b hb => .inr hb, rfl, h⟩, ?_⟩
  rintro m σ' H' ⟨ρ', S', F', env', c, u, l, q⟩
  cases m with
  | zero => exact q.elim
  | succ m =>
    unfold whileGo R.next at q
    rw [post_bind, post_bind] at q
    refine ⟨_, ρ', env'.seen_le, env'.all, post_mono q (fun t p H2 S2 g => ?_) fun _ z => (z.up c u).e⟩
    have env2 := env'.after g
    have c2 := c.trans u (env'.chg g)
    cases t with
    | false =>
      exact go_onN env2 c2 u l p
    | true =>
      rw [if_pos rfl, post_bind] at p
      refine ⟨fun σ3 H3 => Wv m σ3 H3, fun σ3 H3 w3 => ⟨m, Nat.lt_succ_self _, w3⟩, tSt_def.mpr ⟨_, ρ', F', env2, ?_⟩⟩
      refine post_mono p (fun r z => ?_) fun _ z => z.up c2 u
      cases r with
      | ret d => exact fun v H4 S4 s4 c4 r4 => z v H4 S4 s4 (c2.trans u c4) r4
      | next ρ4 =>
        intro σ4 H4 S4 F4 env4 c4 u4 l4
        refine ⟨ρ4, S4, F4, env4, c2.trans u c4, FpUp.trans c2 u u4, by omega, ?_⟩
        unfold R.next
        rw [post_bind]
        exact z
theorem ss_raise {cno : Nat} (asn : PS X st (fun _ σ H => W (cl cno) none σ H)) : SndS X cl W (st :: rest) fun _ => .ex cno := by
  refine pss_impL (pss_cons asn (pss_never (X := X) (sts := rest))) fun D σ H hl h => ?_
  obtain ⟨S, ρ, F, env, h⟩ := tSt_def.mp h
  exact h σ H ⟨fun b o e _ => .inl e, id⟩
/-- slots are forgotten -/
theorem ss_fgt (fz : List Nat) (hk : SndS X cl W rest gk) : SndS X cl W rest fun ρ => gk (wipeE ρ fz) := by
  refine pss_impL hk fun D σ H hl h => ?_
  obtain ⟨S, ρ, F, env, h⟩ := tSt_def.mp h
  have key : ∀ fz : List Nat, ∃ F', EnvR X.K H S σ (wipeE ρ fz) F' ∧ FpUp F F' H := by
    intro fz
    induction fz with
    | nil => exact ⟨F, env, fun b hb => .inr hb⟩
    | cons v vs ih =>
      obtain ⟨F', env', u⟩ := ih
      refine ⟨put F' v [], ?_, FpUp.put u⟩
      show EnvR X.K H S σ ((wipeE ρ vs).set v .un) (put F' v [])
      exact {
        sub := env'.sub
        slot := fun j s' e => by
          unfold put
          by_cases c : v = j
          · subst c
            rw [if_pos rfl]
            by_cases q : v < (wipeE ρ vs).length
            · rw [List.getElem?_set_self q] at e
              cases e
              exact rfl
            · rw [List.getElem?_eq_none (by rw [List.length_set]; omega)] at e
              cases e
          · rw [if_neg (Ne.symm c)]
            rw [List.getElem?_set_ne c] at e
            exact env'.slot j s' e
        out := fun j e => by
          unfold put
          by_cases c : v = j
          · subst c
            rw [if_pos rfl]
          · rw [if_neg (Ne.symm c)]
            rw [List.getElem?_set_ne c] at e
            exact env'.out j e
        nd := fun j => by
          unfold put
          split
          · exact List.nodup_nil
          · exact env'.nd j
        apart := fun j k a ha hb => by
          unfold put at ha hb
          split at ha
          · cases ha
          · split at hb
            · cases hb
            · exact env'.apart j k a ha hb
        free := fun j a ha => by
          unfold put at ha
          split at ha
          · cases ha
          · exact env'.free j a ha }
  obtain ⟨F', env', u⟩ := key fz
  exact go_on env' Chg.refl u rfl h
end
end DL
namespace DL
open PySem PySem.Spec PyProof.Rows L2
variable [Tabs]
open Classical

/-! ### statements -/
/-- how a value is kept: whatever holds no list; a fresh list whose items hold none; with the slots fz given up: any; a fresh list of any items -/
inductive Md where
  | p | f | z (fz : List Nat) | fz (fz : List Nat)
/-- a body that stores nothing -/
inductive IQ where
  | done | expr (e : IE) (k : IQ) | ite (c : IE) (a b k : IQ)
/-- clauses: a class, what is handed back -/
inductive Hs where
  | nil | ret (c : Nat) (e : IE) (r : Hs) | pas (c : Nat) (r : Hs)
inductive IS where
  | done
  | set (m : Md) (i : Nat) (e : IE) (k : IS)
  | par (m : Option (List Nat)) (is : List Nat) (es : IE) (k : IS)
  | par2 (o1 o2 : Bool) (i j : Nat) (e1 e2 : IE) (k : IS)
  | unp (m : Option (List Nat)) (t : Tg) (e : IE) (k : IS)
  | app (i : Nat) (e : IE) (k : IS)
  | sto (i : Nat) (ix e : IE) (k : IS)
  | aug (o : Bop) (i : Nat) (e : IE) (k : IS)
  | expr (e : IE) (k : IS)
  | ret (e : IE)
  | ite (c : IE) (a b k : IS)
  | for_ (t : Tg) (fz : List Nat) (it : IE) (body k : IS)
  | while_ (n : Nat) (c : IE) (body k : IS)
  | raise (c : Nat)
  | try_ (b : IQ) (hs : Hs) (k : IS)
  | pas (k : IS)
  | fgt (fz : List Nat) (k : IS)

def exq (call : Nat → List PyData → R PyData) (b : IQ) (ρ : Env) : R Unit := match b with
  | .done => .ok ()
  | .expr e k => (ev call e ρ).bind fun _ => exq call k ρ
  | .ite c a b k => ((ev call c ρ).bind truth).bind fun t => (if t then exq call a ρ else exq call b ρ).bind fun _ => exq call k ρ
termination_by structural b
/-- the clause that takes an error of the c-th class: what it gives -/
def exh (call : Nat → List PyData → R PyData) (mt : Nat → Nat → Option Bool) (hs : Hs) (c : Nat) (ρ : Env) : R (Option PyData) := match hs with
  | .nil => .ex c
  | .ret c' e r => (match mt c c' with
    | some true => (ev call e ρ).noEx.bind fun d => .ok (some d)
    | some false => exh call mt r c ρ
    | none => .bad)
  | .pas c' r => (match mt c c' with
    | some true => .ok none
    | some false => exh call mt r c ρ
    | none => .bad)
termination_by structural hs
def setF (i : Nat) (gk : Env → R Fl) (ρ : Env) (d : PyData) : R Fl := match d with
  | .list ds => if decide (i < ρ.length) && pures ds then gk (ρ.set i (.o1 ds)) else .bad
  | _ => .bad
def setFz (fz : List Nat) (i : Nat) (gk : Env → R Fl) (ρ : Env) (d : PyData) : R Fl := match d with
  | .list ds => if i < ρ.length then gk ((give fz ρ).set i (.o1 ds)) else .bad
  | _ => .bad
def slO (o : Bool) (d : PyData) : R Sl := if o then (match d with
  | .list ds => if pures ds then .ok (.o1 ds) else .bad
  | _ => .bad) else if pure? d then .ok (.sh d) else .bad
def par2D (i j : Nat) (gk : Env → R Fl) (ρ : Env) (s1 s2 : Sl) : R Fl := if decide (i < ρ.length) && decide (j < ρ.length) then gk ((ρ.set i s1).set j s2) else .bad
def forD (t : Tg) (fz : List Nat) (gb gk : Env → R Fl) (ρ : Env) (x : PyData) : R Fl := match x with
  | .list xs => R.next (forGo t gb xs (give fz ρ)) gk
  | _ => .bad
def tryO (gk : Env → R Fl) (ρ : Env) (o : Option PyData) : R Fl := match o with
  | some d => .ok (.ret d)
  | none => gk ρ
def tryD (b : R Unit) (h : Nat → R (Option PyData)) (gk : Env → R Fl) (ρ : Env) : R Fl := match b with
  | .ok _ => gk ρ
  | .ex c => (h c).bind (tryO gk ρ)
  | .bad => .bad
def exec (call : Nat → List PyData → R PyData) (mt : Nat → Nat → Option Bool) (st : IS) (ρ : Env) : R Fl := match st with
  | .done => .ok (.next ρ)
  | .set m i e k => (match m with
    | .p => (ev call e ρ).bind fun d => if pure? d then exec call mt k (ρ.set i (.sh d)) else .bad
    | .f => (ev call e ρ).bind (setF i (exec call mt k) ρ)
    | .z fz => (ev call e (hideAt fz 0 ρ)).bind fun d => exec call mt k ((give fz ρ).set i (.sh d))
    | .fz fz => (ev call e (hideAt fz 0 ρ)).bind (setFz fz i (exec call mt k) ρ))
  | .par m is es k => (match m with
    | none => (ev call es ρ).bind (parD is (exec call mt k) ρ)
    | some fz => (ev call es (hideAt fz 0 ρ)).bind (parZ fz is (exec call mt k) ρ))
  | .par2 o1 o2 i j e1 e2 k => ((ev call e1 ρ).bind (slO o1)).bind fun s1 => ((ev call e2 ρ).bind (slO o2)).bind (par2D i j (exec call mt k) ρ s1)
  | .unp m t e k => (match m with
    | none => (ev call e ρ).bind (unpD t (exec call mt k) ρ)
    | some fz => (ev call e (hideAt fz 0 ρ)).bind (unpZ fz t (exec call mt k) ρ))
  | .app i e k => (match ρ[i]? with
    | some (.o1 _) => (ev call e ρ).bind (appD i (exec call mt k) ρ)
    | _ => .bad)
  | .sto i ix e k => (match ρ[i]? with
    | some (.o1 _) => (ev call e ρ).bind fun d => if pure? d then (ev call ix ρ).bind (stoD i (exec call mt k) ρ d) else .bad
    | _ => .bad)
  | .aug o i e k => (match ρ[i]? with
    | some (.sh (.int a)) => (ev call e ρ).bind (augD o i (exec call mt k) ρ a)
    | _ => .bad)
  | .expr e k => (ev call e ρ).bind fun _ => exec call mt k ρ
  | .ret e => (ev call e ρ).bind fun d => .ok (.ret d)
  | .ite c a b k => ((ev call c ρ).bind truth).bind fun t => R.next (if t then exec call mt a ρ else exec call mt b ρ) (exec call mt k)
  | .for_ t fz it body k => (ev call it (hideAt fz 0 ρ)).bind (forD t fz (exec call mt body) (exec call mt k) ρ)
  | .while_ n c body k => R.next (whileGo (ev call c) (exec call mt body) n ρ) (exec call mt k)
  | .raise c => .ex c
  | .try_ b hs k => tryD (exq call b ρ) (fun c => exh call mt hs c ρ) (exec call mt k) ρ
  | .pas k => exec call mt k ρ
  | .fgt fz k => exec call mt k (wipeE ρ fz)
termination_by structural st

/-! ### bodies that store nothing -/
def tQ (w : Wh) (f : Env → R Unit) : TS := fun D σ H => ∃ S ρ, In S H ∧ ShR w.K S σ ρ ∧ post (f ρ) (fun _ => ∀ H' S', Grow H S H' S' → D.nx σ H') (w.E σ H)
section
variable {X : Cx} {cl : Nat → Value} {W : WX} {st : Stmt} {rest body other : List Stmt} {e a b c tg : Expr} {es : List Expr} {f fa fb fc : Env → R PyData} {gk ga gb : Env → R Fl} {qk qa qb : Env → R Unit} {pos : Pos} {i j l : Nat}
abbrev SndQ (X : Cx) (cl : Nat → Value) (W : WX) (sts : List Stmt) (g : Env → R Unit) : Prop := PSs X sts (tQ (wh X cl W) g)
theorem sq_nil : SndQ X cl W [] fun _ => .ok () := pss_imp pss_nil fun D σ H ⟨S, ρ, hS, hr, h⟩ => h H S (Grow.refl hS)
theorem q_next {D : Ends} {σ : St} {H H' S S' : Hp} {ρ : Env} (hr : ShR X.K S σ ρ) (g : Grow H S H' S') (h : post (qk ρ) (fun _ => ∀ H' S', Grow H S H' S' → D.nx σ H') ((wh X cl W).E σ H)) : tQ (wh X cl W) qk D σ H' :=
  ⟨S', ρ, g.in_, hr.sub g.s, post_mono h (fun _ z H2 S2 g2 => z H2 S2 (g.trans g2)) fun _ z => z.up g.h⟩
theorem sq_expr (asn : PS X st (tDrop (tD (wh X cl W) f))) (hk : SndQ X cl W rest qk) : SndQ X cl W (st :: rest) fun ρ => (f ρ).bind fun _ => qk ρ := by
  refine pss_imp (pss_cons asn hk) fun D σ H ⟨S, ρ, hS, hr, h⟩ => ?_
  rw [post_bind] at h
  exact ⟨S, ρ, hS, hr, post_mono h (fun d p v H' S' g q => q_next hr g p) fun _ z => z⟩
theorem sq_ite (asn : PS X st (tIfS (tDT (wh X cl W) fun ρ => (fc ρ).bind truth) (tQ (wh X cl W) qa) (tQ (wh X cl W) qb))) (hk : SndQ X cl W rest qk) :
    SndQ X cl W (st :: rest) fun ρ => ((fc ρ).bind truth).bind fun t => (if t then qa ρ else qb ρ).bind fun _ => qk ρ := by
  refine pss_imp (pss_cons asn hk) fun D σ H ⟨S, ρ, hS, hr, h⟩ => ?_
  rw [post_bind] at h
  refine ⟨S, ρ, hS, hr, post_mono h (fun t p H' S' g => ?_) fun _ z => z⟩
  have key : ∀ q : Env → R Unit, post ((q ρ).bind fun _ => qk ρ) (fun _ => ∀ H' S', Grow H S H' S' → D.nx σ H') ((wh X cl W).E σ H) → tQ (wh X cl W) q { D with nx := tQ (wh X cl W) qk D } σ H' := fun q p => by
    rw [post_bind] at p
    exact ⟨S', ρ, g.in_, hr.sub g.s, post_mono p (fun _ z H2 S2 g2 => q_next hr (g.trans g2) z) fun _ z => z.up g.h⟩
  cases t with
  | true => exact key qa p
  | false => exact key qb p

end
/-! ### try -/
inductive HsOk (X : Cx) (cl : Nat → Value) (mt : Nat → Nat → Option Bool) (fx : Nat → Env → R (Option PyData)) : (Nat → Env → R (Option PyData)) → List ExceptHandler → List (Value × (Addr → Value → Option Addr → TS)) → Prop
  | nil : HsOk X cl mt fx fx [] []
  | ret {e : Expr} {x : Str} {np p pos' : Pos} {k : Nat} {f : Env → R PyData} {g : Nat → Env → R (Option PyData)} {hds : List ExceptHandler} {l : List (Value × (Addr → Value → Option Addr → TS))} (hc : Names X x (cl k))
      (he : ∀ (a : Addr) (pn : List (Addr × Obj)), PE (X.suite a pn) e (tD ⟨X.K, cl, noW⟩ f)) (r : HsOk X cl mt fx g hds l) :
      HsOk X cl mt fx (fun c ρ => match mt c k with
        | some true => (f ρ).noEx.bind fun d => .ok (some d)
        | some false => g c ρ
        | none => .bad) (.ExceptHandler (some (.Name x np)) none [.Return (some e) p] pos' :: hds) ((cl k, fun _ _ _ => tRet (tD ⟨X.K, cl, noW⟩ f)) :: l)
  | pas {x : Str} {np p pos' : Pos} {k : Nat} {g : Nat → Env → R (Option PyData)} {hds : List ExceptHandler} {l : List (Value × (Addr → Value → Option Addr → TS))} (hc : Names X x (cl k)) (r : HsOk X cl mt fx g hds l) :
      HsOk X cl mt fx (fun c ρ => match mt c k with
        | some true => .ok none
        | some false => g c ρ
        | none => .bad) (.ExceptHandler (some (.Name x np)) none [.Pass p] pos' :: hds) ((cl k, fun _ _ _ => tNext) :: l)
section
variable {X : Cx} {cl : Nat → Value} {W : WX} {st : Stmt} {rest body other : List Stmt} {gk : Env → R Fl} {pos : Pos} {mt : Nat → Nat → Option Bool} {fh : Nat → Env → R (Option PyData)} {hds : List ExceptHandler} {l : List (Value × (Addr → Value → Option Addr → TS))}
theorem HsOk.toL (h : HsOk X cl mt (fun c _ => .ex c) fh hds l) : HdsOk X hds l := by
  induction h with
  | nil => exact .nil
  | ret hc he r ih => exact .cons hc (fun a oe cls d pn _ _ => pss_one (ps_ret (he a _))) ih
  | pas hc r ih => exact .cons hc (fun a oe cls d pn _ _ => pss_one ps_pass) ih
theorem HsOk.many {D : Ends} {n : Nat} {σ : L2.St} {H H1 S : Hp} {F : Fp} {ρ : Env} {c : Nat} (hl : σ.length = n) (hm : ∀ c c' b, mt c c' = some b → PySem.W.exmOne X.K (cl c) (cl c') = some b) (env : EnvR X.K H S σ ρ F) (s : Up H H1) (h : HsOk X cl mt (fun c _ => .ex c) fh hds l)
    (hp : post ((fh c ρ).bind (tryO gk ρ)) (stP (wh X cl W) D n H S F) (stE (wh X cl W) H F)) : wMany X.K W { D with nx := tSt (wh X cl W) gk D } l (cl c) none σ H1 := by
  have g1 : Grow H S H1 S := ⟨s, Sub.refl _, env.sub.up s, fun b e n => absurd e n⟩
  have env1 := env.grow g1
  generalize efx : (fun (c : Nat) (_ : Env) => (R.ex c : R (Option PyData))) = fx at h
  induction h with
  | nil =>
    subst efx
    exact hp σ H1 ⟨fun b o e _ => s.h b o e, s.t⟩
  | @ret e x np p pos' k f g hds l hc he r ih =>
    dsimp only at hp
    cases q : mt c k with
    | none => rw [q] at hp; exact hp.elim
    | some b =>
      rw [q] at hp
      refine ⟨b, hm _ _ _ q, fun z a ha => ?_, fun z => ?_⟩
      · subst z
        refine ⟨_, ρ, env1.seen_le, env1.all, ?_⟩
        cases z : f ρ with
        | ok d =>
          rw [z] at hp
          intro v H2 S2 g2 r2
          exact hp v H2 S2 g2.in_ ((chg_grow g1).trans (fun b hb => .inr hb) (env1.chgZ g2)) r2
        | ex c => rw [z] at hp; exact hp.elim
        | bad => rw [z] at hp; exact hp.elim
      · subst z
        exact ih hp
  | @pas x np p pos' k g hds l hc r ih =>
    dsimp only at hp
    cases q : mt c k with
    | none => rw [q] at hp; exact hp.elim
    | some b =>
      rw [q] at hp
      refine ⟨b, hm _ _ _ q, fun z a ha => ?_, fun z => ?_⟩
      · subst z
        exact go_onN env1 (chg_grow g1) (fun b hb => .inr hb) hl hp
      · subst z
        exact ih hp
theorem ss_try {h₀ : ExceptHandler} {fq : Env → R Unit} (hs : X.stack = X.env :: X.outer) (hf : X.env.frame = some X.env.locals) (tk : Takes X W) (hm : ∀ c c' b, mt c c' = some b → PySem.W.exmOne X.K (cl c) (cl c') = some b)
    (hb : ∀ (W' : WX) (pn : List (Addr × Obj)) (xe : Value → Shared → Prop), Takes (X.tr pn xe) W' → PassesOwn (model X.prog X.w) X.A X.env xe → SndQ (X.tr pn xe) cl W' body fq)
    (hh : HsOk X cl mt (fun c _ => .ex c) fh (h₀ :: hds) l) (hk : SndS X cl W rest gk) : SndS X cl W (.Try body (h₀ :: hds) [] [] pos :: rest) fun ρ => tryD (fq ρ) (fun c => fh c ρ) gk ρ := by
  refine pss_impL (pss_cons (ps_try_many (tb := fun W' => tQ ⟨X.K, cl, W'⟩ fq) hs hf tk hb hh.toL) hk) fun D σ H hl h => ?_
  obtain ⟨S, ρ, F, env, h⟩ := tSt_def.mp h
  refine ⟨_, ρ, env.seen_le, env.all, ?_⟩
  unfold tryD at h
  cases q : fq ρ with
  | ok u =>
    rw [q] at h
    exact fun H' S' g => go_on (env.after g) (env.chg g) (fun b hb => .inr hb) rfl h
  | ex c =>
    rw [q] at h
    exact fun H1 s => hh.many rfl hm env s h
  | bad => rw [q] at h; exact h.elim
end
end DL
namespace DL
open PySem PySem.Spec PyProof.Rows L2
variable [Tabs]
open Classical

/-! ### which stores go the common way -/
def notComp : Expr → Bool
  | .ListComp .. => false
  | .SetComp .. => false
  | .DictComp .. => false
  | _ => true
theorem sw_no {e : Expr} {t : Option Expr} {l : Nat} {env : PySem.Env} (h : notComp e = true) : swapsWith e t l env = pure false := by
  cases e <;> first | rfl | (simp [notComp] at h; done)
theorem sole_no {e tg : Expr} {l : Nat} {env : PySem.Env} (h : notComp e = true) : swapsWithSole [tg] e l env = pure false := sw_no h
theorem swst_name {e : Expr} {x : Str} {p : Pos} {env : PySem.Env} : swappedStores [.Name x p] e env = pure none := by
  cases e <;> rfl
theorem swst_sub {e a b : Expr} {p : Pos} {env : PySem.Env} : swappedStores [.Subscript a b p] e env = pure none := by
  cases e <;> rfl
def notTup : Expr → Bool
  | .Tuple .. => false
  | _ => true
theorem swst_tup {e : Expr} {ts : List Expr} {k : Nat} {p : Pos} {env : PySem.Env} (h : notTup e = true) : swappedStores [.Tuple ts k p] e env = pure none := by
  cases e <;> first | rfl | (simp [notTup] at h; done)
theorem star_no (e : Expr) : (match e with
  | .Starred .. => true
  | _ => false) = !notStar e := by
  cases e <;> rfl
theorem swst2 {x y : Str} {px py pt : Pos} {kt k2 : Nat} {pt2 : Pos} {a b : Expr} {env : PySem.Env} (hk : env.scope.kind = .function) (hx : env.scope.names.lookup x = some .local) (hy : env.scope.names.lookup y = some .local) (hl : (py.line == px.line) = true) (hn : x ≠ y)
    (ha : notStar a = true) (hb : notStar b = true) (h1 : (foldedForSure 8 a && foldedForSure 8 b) = false) (h2 : (constantsAlone 8 a && constantsAlone 8 b) = false) :
    swappedStores [.Tuple [.Name x px, .Name y py] kt pt] (.Tuple [a, b] k2 pt2) env = pure (some [x, y]) := by
  have kx : env.kindOf x = some .local := hx
  have ky : env.kindOf y = some .local := hy
  have hb' : env.blockKind = .function := by unfold Env.blockKind; rw [hk]; rfl
  have sa := star_no a
  rw [ha] at sa
  have sb := star_no b
  rw [hb] at sb
  have e1 : [a, b].all (foldedForSure 8) = false := by simp only [List.all_cons, List.all_nil, Bool.and_true]; exact h1
  have e2 : [a, b].all (constantsAlone 8) = false := by simp only [List.all_cons, List.all_nil, Bool.and_true]; exact h2
  have e3 : ([x, y].eraseDups.length != [x, y].length) = false := by
    have : (y == x) = false := by simpa using fun z => hn z.symm
    simp [List.eraseDups_cons, this]
  unfold swappedStores
  simp only [hb', List.length_cons, List.length_nil, List.any_cons, List.any_nil, sa, sb, List.head?_cons, Option.map_some, Option.getD_some, Expr.pos, List.filterMap_cons, List.filterMap_nil, kx, ky, hl, beq_self_eq_true, Bool.and_self, if_true, e1, e2]
  simp only [List.length_cons, List.length_nil] at e3
  simp only [Bool.not_true, Bool.or_false, Bool.false_eq_true, if_false, e3]
  simp
  rintro (h | h)
  · exact absurd (h.symm.trans sa) (by decide)
  · exact absurd (h.symm.trans sb) (by decide)
theorem swst3 {x y z : Str} {px py pz pt : Pos} {kt k2 : Nat} {pt2 : Pos} {a b c : Expr} {env : PySem.Env} (hk : env.scope.kind = .function) (hx : env.scope.names.lookup x = some .local) (hy : env.scope.names.lookup y = some .local) (hz : env.scope.names.lookup z = some .local)
    (hl : (py.line == px.line) = true) (hl2 : (pz.line == px.line) = true) (hn : x ≠ y) (hn2 : x ≠ z) (hn3 : y ≠ z)
    (ha : notStar a = true) (hb : notStar b = true) (hc : notStar c = true) (h1 : (foldedForSure 8 a && (foldedForSure 8 b && foldedForSure 8 c)) = false) (h2 : (constantsAlone 8 a && (constantsAlone 8 b && constantsAlone 8 c)) = false) :
    swappedStores [.Tuple [.Name x px, .Name y py, .Name z pz] kt pt] (.Tuple [a, b, c] k2 pt2) env = pure (some [x, y, z]) := by
  have kx : env.kindOf x = some .local := hx
  have ky : env.kindOf y = some .local := hy
  have kz : env.kindOf z = some .local := hz
  have hb' : env.blockKind = .function := by unfold Env.blockKind; rw [hk]; rfl
  have sa := star_no a
  rw [ha] at sa
  have sb := star_no b
  rw [hb] at sb
  have sc := star_no c
  rw [hc] at sc
  have e1 : [a, b, c].all (foldedForSure 8) = false := by simp only [List.all_cons, List.all_nil, Bool.and_true]; exact h1
  have e2 : [a, b, c].all (constantsAlone 8) = false := by simp only [List.all_cons, List.all_nil, Bool.and_true]; exact h2
  have e3 : ([x, y, z].eraseDups.length != [x, y, z].length) = false := by
    have t1 : (y == x) = false := by simpa using fun z => hn z.symm
    have t2 : (z == x) = false := by simpa using fun z => hn2 z.symm
    have t3 : (z == y) = false := by simpa using fun z => hn3 z.symm
    simp [List.eraseDups_cons, t1, t2, t3]
  unfold swappedStores
  simp only [hb', List.length_cons, List.length_nil, List.any_cons, List.any_nil, sa, sb, sc, List.head?_cons, Option.map_some, Option.getD_some, Expr.pos, List.filterMap_cons, List.filterMap_nil, kx, ky, kz, hl, hl2, beq_self_eq_true, Bool.and_self, if_true, e1, e2]
  simp only [List.length_cons, List.length_nil] at e3
  simp only [Bool.not_true, Bool.or_false, Bool.false_eq_true, if_false, e3]
  simp
  rintro (h | h | h)
  · exact absurd (h.symm.trans sa) (by decide)
  · exact absurd (h.symm.trans sb) (by decide)
  · exact absurd (h.symm.trans sc) (by decide)
/-- a tuple of constants -/
theorem swst_const {ts vs : List Expr} {k k2 : Nat} {p p2 : Pos} {env : PySem.Env} (h : vs.all (foldedForSure 8) = true) (h0 : env.scope.kind = .function) : swappedStores [.Tuple ts k p] (.Tuple vs k2 p2) env = pure none := by
  unfold swappedStores
  simp only [h, if_true]
  repeat' split
  all_goals first | rfl | skip
theorem swst_len {ts vs : List Expr} {k k2 : Nat} {p p2 : Pos} {env : PySem.Env} (h : (ts.length == 2 || ts.length == 3) = false) : swappedStores [.Tuple ts k p] (.Tuple vs k2 p2) env = pure none := by
  unfold swappedStores
  dsimp only
  rw [h]
  rfl
theorem filterMap_short {α β : Type} {f : α → Option β} : ∀ {l : List α}, (∃ x ∈ l, f x = none) → (l.filterMap f).length < l.length
  | [], h => by
    obtain ⟨x, hx, _⟩ := h
    cases hx
  | a :: l, h => by
    have le : ∀ l : List α, (l.filterMap f).length ≤ l.length := fun l => List.length_filterMap_le f l
    rw [List.filterMap_cons]
    cases e : f a with
    | none =>
      have := le l
      rw [List.length_cons]
      show (l.filterMap f).length < _
      omega
    | some b =>
      obtain ⟨x, hx, e2⟩ := h
      rcases List.mem_cons.mp hx with z | z
      · subst z; rw [e] at e2; cases e2
      · have := filterMap_short (l := l) ⟨x, z, e2⟩
        show (l.filterMap f).length + 1 < l.length + 1
        omega
/-- a name that isn't the frame's own: the stores go in order -/
theorem swst_cell {ts vs : List Expr} {k k2 : Nat} {p p2 : Pos} {env : PySem.Env} (h : ∃ t ∈ ts, ∀ x q, t = .Name x q → env.scope.names.lookup x ≠ some .local) : swappedStores [.Tuple ts k p] (.Tuple vs k2 p2) env = pure none := by
  unfold swappedStores
  dsimp only
  split
  · rfl
  · split
    · rfl
    · rw [if_pos]
      rw [Bool.or_eq_true]
      refine .inl ?_
      have z := fun (l : Nat) => filterMap_short (f := fun t => match t with
        | .Name id pos => if env.kindOf id == some .local && pos.line == l then some id else none
        | _ => none) (l := ts) (by
          obtain ⟨t, ht, hn⟩ := h
          refine ⟨t, ht, ?_⟩
          split
          · rename_i id pos
            have := hn id pos rfl
            have e : (env.kindOf id == some NameKind.local) = false := by
              cases q : env.kindOf id == some NameKind.local with
              | false => rfl
              | true => exact absurd (show env.kindOf id = some .local by simpa using q) this
            rw [e, Bool.false_and, if_neg Bool.false_ne_true]
          · rfl)
      have z1 := z ((ts.head?.map (·.pos.line)).getD 0)
      simp only [bne_iff_ne, ne_eq]
      exact Nat.ne_of_lt z1
end DL
namespace DL
open PySem PySem.Spec PyProof.Rows L2
variable [Tabs]
open Classical

def localB (sc : Scope) (x : Str) : Bool := decide (sc.names.lookup x = some .local)
def aliasB (scope : Scope) (y : Str) : Bool := scope.names.any fun (n, k) => n == y && (k == .local || k == .cell)
def exN (T : Tab) (sc : Scope) (c : Nat) (y : Str) : Bool := decide (T.exs[c]? = some y) && glB sc y && okN y
def simpleH : IE → Bool
  | .bl _ => true
  | .cmp _ (.var _) (.int _) => true
  | _ => false
def chkQ (T : Tab) (N : List Str) (b : IQ) (sc : Scope) (sts : List Stmt) : Bool := match b with
  | .done => sts.isEmpty
  | .expr e k => (match sts with
    | .Expr x _ :: r => notComp x && chk T N e sc (.e x) && chkQ T N k sc r
    | _ => false)
  | .ite c a b k => (match sts with
    | .If x p q _ :: r => chk T N c sc (.e x) && chkQ T N a sc p && chkQ T N b sc q && chkQ T N k sc r
    | _ => false)
termination_by structural b
def chkH (T : Tab) (N : List Str) (hs : Hs) (sc : Scope) (hds : List ExceptHandler) : Bool := match hs with
  | .nil => hds.isEmpty
  | .ret c e r => (match hds with
    | .ExceptHandler (some (.Name y _)) none [.Return (some x) _] _ :: hds => exN T sc c y && simpleH e && chk T N e sc (.e x) && chkH T N r sc hds
    | _ => false)
  | .pas c r => (match hds with
    | .ExceptHandler (some (.Name y _)) none [.Pass _] _ :: hds => exN T sc c y && chkH T N r sc hds
    | _ => false)
termination_by structural hs
def freshM : Md → Bool
  | .f => true
  | .fz _ => true
  | _ => false
def setOk (sc : Scope) (y : Str) (py : Pos) : Expr → Bool
  | .ListComp _ _ scope p => decide (sc.names.lookup y = some .cell) || (localB sc y && (py.line == p.line) && !aliasB scope y)
  | x => notComp x
/-- names side by side -/
def parOk (N : List Str) (sc : Scope) (is : List Nat) (ts vs : List Expr) : Bool := match is, ts, vs with
  | [i, j], [.Name x px, .Name y py], [a, b] => decide (N[i]? = some x) && decide (N[j]? = some y) && decide (i ≠ j) && localB sc x && localB sc y && (py.line == px.line) && decide (x ≠ y) && notStar a && notStar b &&
      !(foldedForSure 8 a && foldedForSure 8 b) && !(constantsAlone 8 a && constantsAlone 8 b)
  | [i, j, l], [.Name x px, .Name y py, .Name z pz], [a, b, c] => decide (N[i]? = some x) && decide (N[j]? = some y) && decide (N[l]? = some z) && decide (i ≠ j) && decide (i ≠ l) && decide (j ≠ l) && localB sc x && localB sc y && localB sc z &&
      (py.line == px.line) && (pz.line == px.line) && decide (x ≠ y) && decide (x ≠ z) && decide (y ≠ z) && notStar a && notStar b && notStar c &&
      !(foldedForSure 8 a && (foldedForSure 8 b && foldedForSure 8 c)) && !(constantsAlone 8 a && (constantsAlone 8 b && constantsAlone 8 c))
  | _, _, _ => false
/-- names that aren't all the frame's own -/
def someCell (sc : Scope) (ts : List Expr) : Bool := ts.any fun t => match t with
  | .Name x _ => !localB sc x
  | _ => true
/-- what is unpacked -/
def unpOk (sc : Scope) : Expr → Expr → Bool
  | .Tuple ts _ _, .Tuple vs _ _ => vs.all (foldedForSure 8) || (someCell sc ts || !(ts.length == 2 || ts.length == 3))
  | .Tuple _ _ _, e => notComp e
  | _, _ => false
def augB : Bop → Bool
  | .add => true
  | .sub => true
  | _ => false
def chkS (T : Tab) (N : List Str) (ir : IS) (sc : Scope) (sts : List Stmt) : Bool := match ir with
  | .done => sts.isEmpty
  | .set m i e k => (match sts with
    | .Assign [.Name y py] x _ :: r => decide (N[i]? = some y) && locB sc y && setOk sc y py x && (!freshM m || freshE e) && chk T N e sc (.e x) && chkS T N k sc r
    | _ => false)
  | .par _ is es k => (match sts with
    | .Assign [.Tuple ts _ _] (.Tuple vs _ _) _ :: r => parOk N sc is ts vs && chk T N es sc (.es vs) && chkS T N k sc r
    | _ => false)
  | .par2 o1 o2 i j e1 e2 k => (match sts with
    | .Assign [.Tuple ts kt pt] (.Tuple [x1, x2] _ _) _ :: r => decide (i ≠ j) && (parOk N sc [i, j] ts [x1, x2] || (chkT N sc (.many [i, j]) (.Tuple ts kt pt) && someCell sc ts && notStar x1 && notStar x2)) && (!o1 || freshE e1) && (!o2 || freshE e2) && chk T N e1 sc (.e x1) && chk T N e2 sc (.e x2) && chkS T N k sc r
    | _ => false)
  | .unp _ t e k => (match sts with
    | .Assign [tg] x _ :: r => unpOk sc tg x && chkT N sc t tg && chk T N e sc (.e x) && chkS T N k sc r
    | _ => false)
  | .app i e k => (match sts with
    | .Expr (.Call (.Attribute (.Name y _) a apos) [x] [] cpos) _ :: r => decide (N[i]? = some y) && visB sc y && okN y && decide (a = "append") && (apos.endLine == cpos.line) && notStar x && chk T N e sc (.e x) && chkS T N k sc r
    | _ => false)
  | .sto i ix e k => (match sts with
    | .Assign [.Subscript (.Name y _) z _] x _ :: r => decide (N[i]? = some y) && visB sc y && okN y && plainIx z && notComp x && chk T N ix sc (.e z) && chk T N e sc (.e x) && chkS T N k sc r
    | _ => false)
  | .aug o i e k => (match sts with
    | .AugAssign (.Name y _) op x _ :: r => decide (N[i]? = some y) && locB sc y && decide (op = o.op) && augB o && chk T N e sc (.e x) && chkS T N k sc r
    | _ => false)
  | .expr e k => (match sts with
    | .Expr x _ :: r => notComp x && chk T N e sc (.e x) && chkS T N k sc r
    | _ => false)
  | .ret e => (match sts with
    | .Return (some x) _ :: _ => chk T N e sc (.e x)
    | _ => false)
  | .ite c a b k => (match sts with
    | .If x p q _ :: r => chk T N c sc (.e x) && chkS T N a sc p && chkS T N b sc q && chkS T N k sc r
    | _ => false)
  | .for_ t _ it body k => (match sts with
    | .For tg x p [] _ :: r => chkT N sc t tg && notSet x && chk T N it sc (.it tg x) && chkS T N body sc p && chkS T N k sc r
    | _ => false)
  | .while_ _ c body k => (match sts with
    | .While x p [] _ :: r => chk T N c sc (.e x) && chkS T N body sc p && chkS T N k sc r
    | _ => false)
  | .raise c => (match sts with
    | .Raise (some (.Call (.Name y _) [.Constant (.str _) _ _] [] _)) none _ :: _ => exN T sc c y
    | _ => false)
  | .try_ b hs k => (match sts with
    | .Try p (h :: hds) [] [] _ :: r => chkQ T N b sc p && chkH T N hs sc (h :: hds) && chkS T N k sc r
    | _ => false)
  | .pas k => (match sts with
    | .Pass _ :: r => chkS T N k sc r
    | _ => false)
  | .fgt _ k => chkS T N k sc sts
termination_by structural ir

/-- a place of statements -/
structure AtS (T : Tab) (N : List Str) (cl : Nat → Value) (run : Nat → List PyData → R PyData) (mt : Nat → Nat → Option Bool) (X : Cx) (sc : Scope) (W : WX) : Prop where
  at_ : At T N cl run X sc W
  kind : X.env.scope.kind = .function
  po : PassesOwn (model X.prog X.w) X.A X.env X.xe
  hs : X.stack = X.env :: X.outer
  hf : X.env.frame = some X.env.locals
  fn : ∀ x, X.fn x = true
  exs : ∀ (c : Nat) (y : Str), T.exs[c]? = some y → X.mg y = some (cl c) ∧ ∀ (m : Str) (j : Nat) (p p2 pos : Pos), Gl X y → (y == ("__debug__" : Str)) = false → PMk X (.Call (.Name y p) [.Constant (.str m) j p2] [] pos) (fun _ H Q => Q (cl c) none H)
  exm : ∀ c c' b, mt c c' = some b → PySem.W.exmOne X.K (cl c) (cl c') = some b
theorem At.tr {T : Tab} {N : List Str} {cl : Nat → Value} {run : Nat → List PyData → R PyData} {X : Cx} {sc : Scope} {W W' : WX} (h : At T N cl run X sc W) (pn : List (Addr × Obj)) (xe : Value → Shared → Prop) (tk : Takes (X.tr pn xe) W') : At T N cl run (X.tr pn xe) sc W' where
  calm := h.calm
  nd := h.nd
  N := h.N
  scope := h.scope
  hu := h.hu
  tk := tk
  fns := h.fns
  gls := h.gls
  bls := h.bls
  rm := h.rm
  built := h.built
  code := fun n pn' xe' pins σ H s I t => h.code n pn' xe' pins σ H s I t
  codeB := h.codeB
section
variable {T : Tab} {N : List Str} {cl : Nat → Value} {call run : Nat → List PyData → R PyData} {mt : Nat → Nat → Option Bool} {X : Cx} {sc : Scope} {W : WX}
theorem locB_ok {x : Str} (h : locB sc x = true) (e : X.env.scope = sc) : Loc X.env.scope x := by
  unfold locB at h
  rw [e]
  unfold L2.Loc
  split at h <;> first | exact .inl (by assumption) | exact .inr (by assumption) | cases h
theorem exN_ok {c : Nat} {y : Str} (hA : AtS T N cl run mt X sc W) (h : exN T sc c y = true) : Names X y (cl c) := by
  unfold exN at h
  simp only [Bool.and_eq_true, decide_eq_true_eq] at h
  exact ⟨glB_ok h.1.2 hA.at_.scope, (okN_ok h.2).1, .inl (hA.exs c y h.1.1).1⟩
theorem soundH (hA : AtS T N cl run mt X sc W) (ir : IE) (hf : simpleH ir = true) (x : Expr) (h : chk T N ir sc (.e x) = true) (a : Addr) (pn : List (Addr × Obj)) : PE (X.suite a pn) x (tD ⟨X.K, cl, noW⟩ (ev call ir)) := by
  have hv : ∀ (i : Nat) (x : Expr), chk T N (.var i) sc (.e x) = true → Snd (X.suite a pn) cl noW x (ev call (.var i)) := fun i x h => by
    simp only [chk] at h
    split at h
    · rename_i heq
      cases heq
      simp only [Bool.and_eq_true, decide_eq_true_eq] at h
      exact snd_var (X := X.suite a pn) (by show X.N[i]? = _; rw [hA.at_.N]; exact h.1.1) (visB_ok (X := X) h.1.2 hA.at_.scope) (okN_ok h.2).1 (okN_ok h.2).2
    · cases h
  have hi : ∀ (i : Int) (x : Expr), chk T N (.int i) sc (.e x) = true → Snd (X.suite a pn) cl noW x (ev call (.int i)) := fun i x h => by
    simp only [chk] at h
    split at h
    · rename_i heq
      cases heq
      have e := of_decide_eq_true h
      subst e
      exact snd_int
    · cases h
  unfold simpleH at hf
  split at hf
  · simp only [chk] at h
    split at h
    · rename_i heq
      cases heq
      have e := eq_of_beq h
      subst e
      exact snd_bl.pe
    · cases h
  · simp only [chk] at h
    split at h
    · rename_i heq
      cases heq
      simp only [Bool.and_eq_true, decide_eq_true_eq, Bool.not_eq_true'] at h
      obtain ⟨⟨⟨e, hb⟩, h1⟩, h2⟩ := h
      subst e
      have q := snd_cmp (X := X.suite a pn) (cl := cl) (W := noW) (pos := ‹_›) hA.at_.hu (hv _ _ h1) (hi _ _ h2) hb
      exact pe_imp q.pe fun σ H Q z => by
        simpa only [ev] using z
    · cases h
  · cases hf
theorem soundHs (hA : AtS T N cl run mt X sc W) : ∀ (hs : Hs) (hds : List ExceptHandler), chkH T N hs sc hds = true → ∃ l, HsOk X cl mt (fun c _ => .ex c) (fun c ρ => exh call mt hs c ρ) hds l
  | .nil, hds, h => by
    simp only [chkH, List.isEmpty_iff] at h
    subst h
    refine ⟨[], ?_⟩
    simp only [exh]
    exact .nil
  | .ret c e r, hds, h => by
    simp only [chkH] at h
    split at h
    · simp only [Bool.and_eq_true] at h
      obtain ⟨⟨⟨h1, h2⟩, h3⟩, h4⟩ := h
      obtain ⟨l, hl⟩ := soundHs hA r _ h4
      exact ⟨_, .ret (exN_ok hA h1) (soundH hA e h2 _ h3) hl⟩
    · cases h
  | .pas c r, hds, h => by
    simp only [chkH] at h
    split at h
    · simp only [Bool.and_eq_true] at h
      obtain ⟨h1, h4⟩ := h
      obtain ⟨l, hl⟩ := soundHs hA r _ h4
      exact ⟨_, .pas (exN_ok hA h1) hl⟩
    · cases h
theorem soundQ (hC : CallOk T call run) (hA : At T N cl run X sc W) : ∀ (b : IQ) (sts : List Stmt), chkQ T N b sc sts = true → SndQ X cl W sts (exq call b)
  | .done, sts, h => by
    simp only [chkQ, List.isEmpty_iff] at h
    subst h
    exact sq_nil
  | .expr e k, sts, h => by
    simp only [chkQ] at h
    split at h
    · simp only [Bool.and_eq_true] at h
      obtain ⟨⟨h1, h2⟩, h3⟩ := h
      exact sq_expr (ps_expr ((sound hC e X sc W hA).e _ h2).pe (sw_no h1)) (soundQ hC hA k _ h3)
    · cases h
  | .ite c a b k, sts, h => by
    simp only [chkQ] at h
    split at h
    · simp only [Bool.and_eq_true] at h
      obtain ⟨⟨⟨h1, h2⟩, h3⟩, h4⟩ := h
      exact sq_ite (ps_if ((sound hC c X sc W hA).e _ h1).pt (soundQ hC hA a _ h2) (soundQ hC hA b _ h3)) (soundQ hC hA k _ h4)
    · cases h
end
end DL
namespace DL
open PySem PySem.Spec PyProof.Rows L2
variable [Tabs]
open Classical

section
variable {T : Tab} {N : List Str} {cl : Nat → Value} {call run : Nat → List PyData → R PyData} {mt : Nat → Nat → Option Bool} {X : Cx} {sc : Scope} {W : WX}
theorem localB_ok {x : Str} (h : localB sc x = true) (e : X.env.scope = sc) : X.env.scope.names.lookup x = some .local := by
  rw [e]; exact of_decide_eq_true h
theorem ixlt {i : Nat} {y : Str} (h : X.N[i]? = some y) : i < X.N.length := (List.getElem?_eq_some_iff.mp h).1
/-- name = value: the store, with a new list told -/
theorem asg_set (hC : CallOk T call run) (hA : AtS T N cl run mt X sc W) {e : IE} {i : Nat} {y : Str} {py pos : Pos} {x : Expr} (hN : N[i]? = some y) (hl : locB sc y = true) (hs : setOk sc y py x = true) (hc : chk T N e sc (.e x) = true) :
    PS X (.Assign [.Name y py] x pos) (tAsg (tD (wh X cl W) (ev call e)) (gName i)) ∧ (freshE e = true → PS X (.Assign [.Name y py] x pos) (tAsg (tDF (wh X cl W) (ev call e)) (gName i))) := by
  have hN' : X.N[i]? = some y := by rw [hA.at_.N]; exact hN
  have lo := locB_ok hl hA.at_.scope
  have pg : PG X (.Name y py) (gName i) := pg_name hA.at_.nd hN' lo (.inl (hA.fn y))
  by_cases c : notComp x = true
  · exact ⟨ps_asg ((sound hC e X sc W hA.at_).e _ hc).pe pg (sole_no c) swst_name rfl, fun hf => ps_asg (soundF hC hA.at_ e hf _ hc) pg (sole_no c) swst_name rfl⟩
  · cases x <;> first | (exact absurd rfl c) | skip
    · rename_i elt gs scope p
      unfold setOk at hs
      rw [Bool.or_eq_true] at hs
      rcases hs with hs | hs
      · have hs := of_decide_eq_true hs
        have sw : swapsWithSole [.Name y py] (.ListComp elt gs scope p) pos.line X.env = pure false := by
          show swapsWith (.ListComp elt gs scope p) (some (.Name y py)) pos.line X.env = pure false
          have ky : X.env.kindOf y = some .cell := by
            show X.env.scope.names.lookup y = some .cell
            rw [hA.at_.scope]; exact hs
          unfold swapsWith
          simp only [ky]
          cases X.env.blockKind <;> rfl
        exact ⟨ps_asg ((sound hC e X sc W hA.at_).e _ hc).pe pg sw swst_name rfl, fun hf => ps_asg (soundF hC hA.at_ e hf _ hc) pg sw swst_name rfl⟩
      simp only [Bool.and_eq_true, Bool.not_eq_true'] at hs
      obtain ⟨⟨h1, h2⟩, h3⟩ := hs
      obtain ⟨tg, iter, ifs, own, t, fi, fc, fe, e1, e2, e3⟩ := (sound hC e X sc W hA.at_).lc _ _ _ _ hc
      subst e1
      have q := set_lc (cl := cl) (W := W) (spos := pos) (py := py) (pos := p) hA.at_.calm hA.at_.nd e2 hN' (localB_ok h1 hA.at_.scope) hA.kind h2 h3
      rw [← e3] at q
      exact ⟨ps_imp q fun D σ H z => td_tdf (fun ρ d w => by rw [e3] at w; exact lcD_list w) z, fun _ => q⟩
    · exact absurd hs (by simp [setOk, notComp])
    · exact absurd hs (by simp [setOk, notComp])
theorem parOk_ok (hA : AtS T N cl run mt X sc W) {is : List Nat} {ts vs : List Expr} {kt k2 : Nat} {pt pt2 pos : Pos} {ta : TA} (h : parOk N sc is ts vs = true) (ha : PA X vs ta) :
    (∀ i ∈ is, i < X.N.length) ∧ (is.length = 2 ∨ is.length = 3) ∧ ∃ t : TS, PS X (.Assign [.Tuple ts kt pt] (.Tuple vs k2 pt2) pos) t ∧ ∀ D σ H, ta σ H (fun ws H1 => ws.length = is.length ∧ D.nx (setAll is ws σ) H1) → (∀ Q Q' : List V → Hp → Prop, (∀ ws H1, Q ws H1 → Q' ws H1) → ta σ H Q → ta σ H Q') → t D σ H := by
  unfold parOk at h
  split at h
  · simp only [Bool.and_eq_true, decide_eq_true_eq, Bool.not_eq_true'] at h
    obtain ⟨⟨⟨⟨⟨⟨⟨⟨⟨⟨h1, h2⟩, h3⟩, h4⟩, h5⟩, h6⟩, h7⟩, h8⟩, h9⟩, h10⟩, h11⟩ := h
    rw [← hA.at_.N] at h1 h2
    refine ⟨fun k hk => ?_, .inl rfl, _, ps_par hA.at_.calm hA.at_.nd h1 h2 h3 (localB_ok h4 hA.at_.scope) (localB_ok h5 hA.at_.scope) ha (swst2 hA.kind (localB_ok h4 hA.at_.scope) (localB_ok h5 hA.at_.scope) h6 h7 h8 h9 h10 h11) rfl, fun D σ H q m => ?_⟩
    · simp only [List.mem_cons, List.not_mem_nil, or_false] at hk
      rcases hk with rfl | rfl
      · exact ixlt h1
      · exact ixlt h2
    · refine m _ _ (fun ws H1 z => ?_) q
      match ws, z with
      | [v, w], z => exact ⟨v, w, rfl, z.2⟩
  · simp only [Bool.and_eq_true, decide_eq_true_eq, Bool.not_eq_true'] at h
    obtain ⟨⟨⟨⟨⟨⟨⟨⟨⟨⟨⟨⟨⟨⟨⟨⟨⟨⟨h1, h2⟩, h3⟩, h4⟩, h5⟩, h6⟩, h7⟩, h8⟩, h9⟩, h10⟩, h11⟩, h12⟩, h13⟩, h14⟩, h15⟩, h16⟩, h17⟩, h18⟩, h19⟩ := h
    rw [← hA.at_.N] at h1 h2 h3
    refine ⟨fun k hk => ?_, .inr rfl, _, ps_par3 hA.at_.calm hA.at_.nd h1 h2 h3 h4 h5 h6 (localB_ok h7 hA.at_.scope) (localB_ok h8 hA.at_.scope) (localB_ok h9 hA.at_.scope) ha (swst3 hA.kind (localB_ok h7 hA.at_.scope) (localB_ok h8 hA.at_.scope) (localB_ok h9 hA.at_.scope) h10 h11 h12 h13 h14 h15 h16 h17 h18 h19) rfl, fun D σ H q m => ?_⟩
    · simp only [List.mem_cons, List.not_mem_nil, or_false] at hk
      rcases hk with rfl | rfl | rfl
      · exact ixlt h1
      · exact ixlt h2
      · exact ixlt h3
    · refine m _ _ (fun ws H1 z => ?_) q
      match ws, z with
      | [u, v, w], z => exact ⟨u, v, w, rfl, z.2⟩
  · cases h
theorem tda_mono {w : Wh} {f : Env → R PyData} {σ : St} {H : Hp} (Q Q' : List V → Hp → Prop) (m : ∀ ws H1, Q ws H1 → Q' ws H1) (h : tDA w f σ H Q) : tDA w f σ H Q' := by
  obtain ⟨S, ρ, hS, hr, h⟩ := h
  refine ⟨S, ρ, hS, hr, post_mono h (fun d p => ?_) fun _ z => z⟩
  cases d <;> try exact p.elim
  exact fun vs H' S' g q => m _ _ (p vs H' S' g q)
def tDW (o : Bool) (w : Wh) (f : Env → R PyData) : TE := if o then tDF w f else tD w f
theorem slO_tt {d : PyData} {s : Sl} (h : slO true d = .ok s) : ∃ ds, d = .list ds ∧ pures ds = true ∧ s = .o1 ds := by
  unfold slO at h
  rw [if_pos rfl] at h
  cases d <;> try cases h
  rename_i ds
  dsimp only at h
  split at h
  · cases h; exact ⟨ds, rfl, by assumption, rfl⟩
  · cases h
theorem slO_ff {d : PyData} {s : Sl} (h : slO false d = .ok s) : pure? d = true ∧ s = .sh d := by
  unfold slO at h
  rw [if_neg Bool.false_ne_true] at h
  split at h
  · cases h; exact ⟨by assumption, rfl⟩
  · cases h
theorem tdo_all {o : Bool} {f : Env → R PyData} {S : Hp} {ρ : Env} {F : Fp} {σ : St} {H : Hp} {Q : VK} {P : Sl → Prop} (env : EnvR X.K H S σ ρ F) (h : post ((f ρ).bind (slO o)) P (stE (wh X cl W) H F))
    (hP : ∀ s v H1 S1 l, P s → Grow H (seen S H F fun _ => True) H1 S1 → SlR X.K H1 (less S1 F fun _ => True) (some (some v)) s l → l.Nodup → (∀ a ∈ l, H a = none ∧ less S1 F (fun _ => True) a = none) → Q v H1) : tDW o (wh X cl W) f σ H Q := by
  rw [post_bind] at h
  cases o with
  | true =>
    refine (show tDF (wh X cl W) f σ H Q from ⟨_, ρ, env.seen_le, env.all, post_mono h (fun d p => ?_) fun _ z => z.e⟩)
    cases e : slO true d with
    | ok s =>
      rw [e] at p
      obtain ⟨ds, rfl, hp, rfl⟩ := slO_tt e
      intro q vs H' S' g e1 n s r
      have e2 : less S' F (fun _ => True) q = none := by
        cases z : less S' F (fun _ => True) q with
        | none => rfl
        | some o => rw [less_sub q o z] at s; cases s
      exact hP _ _ _ _ [q] p g ⟨q, vs, rfl, rfl, e1, env.pures_up g hp r⟩ (by simp) fun a ha => by
        have : a = q := by simpa using ha
        subst this; exact ⟨n, e2⟩
    | ex c => rw [e] at p; unfold slO at e; split at e <;> (try split at e) <;> (try split at e) <;> cases e
    | bad => rw [e] at p; exact p.elim
  | false =>
    refine (show tD (wh X cl W) f σ H Q from td_all env h fun d v H' S' p g q => ?_)
    cases e : slO false d with
    | ok s =>
      rw [e] at p
      obtain ⟨hp, rfl⟩ := slO_ff e
      exact hP _ _ _ _ [] p g ⟨rfl, v, rfl, env.pure_up g hp q⟩ List.nodup_nil fun a ha => by cases ha
    | ex c => rw [e] at p; unfold slO at e; split at e <;> (try split at e) <;> (try split at e) <;> cases e
    | bad => rw [e] at p; exact p.elim
theorem ss_par2 {st : Stmt} {rest : List Stmt} {o1 o2 : Bool} {i j : Nat} {t : TS} {f1 f2 : Env → R PyData} {gk : Env → R Fl} (hi : i < X.N.length) (hj : j < X.N.length) (hij : i ≠ j) (asn : PS X st t)
    (ha : ∀ D σ H, tDW o1 (wh X cl W) f1 σ H (fun v H1 => tDW o2 (wh X cl W) f2 σ H1 fun w H2 => ∀ H3, Up H2 H3 → D.nx (setAll [i, j] [v, w] σ) H3) → t D σ H) (hk : SndS X cl W rest gk) :
    SndS X cl W (st :: rest) fun ρ => ((f1 ρ).bind (slO o1)).bind fun s1 => ((f2 ρ).bind (slO o2)).bind (par2D i j gk ρ s1) := by
  refine pss_impL (pss_cons asn hk) fun D σ H hl h => ?_
  obtain ⟨S, ρ, F, env, h⟩ := tSt_def.mp h
  rw [post_bind] at h
  refine ha _ σ H (tdo_all env h fun s1 v1 H1 S1 l1 p1 g1 r1 nd1 n1 => ?_)
  have env1 := env.after g1
  have c1 := env.chg g1
  rw [post_bind] at p1
  refine tdo_all env1 (post_mono p1 (fun _ z => z) fun _ z => z.up c1 fun b hb => .inr hb) fun s2 v2 H2 S2 l2 p2 g2 r2 nd2 n2 => ?_
  have env2 := env1.after g2
  have c2 := env1.chg g2
  have nF : ∀ q, H q = none → ∀ k, q ∉ F k := fun q hq k hk => by
    obtain ⟨⟨vs, z⟩, _⟩ := env.lst ⟨k, hk⟩
    rw [hq] at z; cases z
  have nF1 : ∀ q, H1 q = none → ∀ k, q ∉ F k := fun q hq k hk => by
    obtain ⟨⟨vs, z⟩, _⟩ := env1.lst ⟨k, hk⟩
    rw [hq] at z; cases z
  have l1H : ∀ a ∈ l1, H1 a ≠ none := fun a ha => by
    obtain ⟨ws, z⟩ := r1.mem a ha
    rw [z]; simp
  have n1' : ∀ a ∈ l1, less S2 F (fun _ => True) a = none := fun a ha => by
    cases z : less S2 F (fun _ => True) a with
    | none => rfl
    | some o =>
      have q := g2.new a (by
        rw [seen_out]
        · exact (n1 a ha).2
        · rintro ⟨k, _, hk⟩
          exact nF a (n1 a ha).1 k hk) (by rw [less_sub a o z]; simp)
      exact absurd q (l1H a ha)
  obtain ⟨hp, p2⟩ := post_if2 p2
  simp only [Bool.and_eq_true, decide_eq_true_eq] at hp
  have env3 := env2.store (i := i) (v := v1) (s := s1) (l := l1) (by rw [hl]; exact hi) (r1.mono (fun b _ u q => g2.h.lst q) (env1.less_up (env1.seen_sub.trans g2.s))) nd1 (fun a ha k _ => nF a (n1 a ha).1 k) n1' (.inl hp.1)
  have env4 := env3.store (i := j) (v := v2) (s := s2) (l := l2) (by rw [List.length_set, hl]; exact hj) r2 nd2 (fun a ha k hk hm => by
    unfold put at hm
    split at hm
    · exact l1H a hm (n2 a ha).1
    · exact nF1 a (n2 a ha).1 k hm) (fun a ha => (n2 a ha).2) (.inl (by rw [List.length_set]; exact hp.2))
  intro H3 up
  have g3 : Grow H2 (less S2 F fun _ => True) H3 (less S2 F fun _ => True) := ⟨up, Sub.refl _, env4.sub.up up, fun b e n => absurd e n⟩
  refine go_on (env4.grow g3) ((c1.trans (fun b hb => .inr hb) c2).trans (fun b hb => .inr hb) (chg_grow g3)) ?_ (by simp [setAll]) p2
  intro b ⟨k, hb⟩
  unfold put at hb
  split at hb
  · exact .inl (g1.h.no (n2 b hb).1)
  · split at hb
    · exact .inl (n1 b hb).1
    · exact .inr ⟨k, hb⟩
end
end DL
namespace DL
open PySem PySem.Spec PyProof.Rows L2
variable [Tabs]
open Classical

section
variable {T : Tab} {N : List Str} {cl : Nat → Value} {call run : Nat → List PyData → R PyData} {mt : Nat → Nat → Option Bool} {X : Cx} {sc : Scope} {W : WX}
theorem asg_sub {y : Str} {z : Expr} {p1 p2 : Pos} {env : PySem.Env} (h : plainIx z = true) : ∀ v, assign (.Subscript (.Name y p1) z p2) env v = (do
      let ov ← holding [v] (eval (.Name y p1) env)
      let iv ← holding [v, ov] (eval z env)
      standAt p2
      holding [v, ov, iv] (setItem ov iv v)
      release [v, ov, iv] []) := by
  intro v
  cases z <;> first | rfl | (simp [plainIx] at h; done)
theorem few_one {x : Expr} {cpos : Pos} {env : PySem.Env} (h : notStar x = true) : ((backTo cpos (starEach [x] env)).all (fun x => !x.1) && (backToKw cpos (keywordEach [] env)).all (fun x => x.1.isSome)
      && decide ([x].length + ([] : List Keyword).length + (if ([] : List Keyword).isEmpty then 0 else 1) < 30)) = true := by
  rw [star_cons h]; rfl
theorem ixAll_lt {N : List Str} : ∀ {ys : List Str} {is : List Nat}, ixAll N ys is = true → ∀ i ∈ is, i < N.length
  | [], [], _, i, hi => by cases hi
  | [], _ :: _, h, _, _ => by cases h
  | _ :: _, [], h, _, _ => by cases h
  | y :: ys, j :: is, h, i, hi => by
    simp only [ixAll, Bool.and_eq_true, decide_eq_true_eq] at h
    rcases List.mem_cons.mp hi with e | e
    · subst e; exact (List.getElem?_eq_some_iff.mp h.1).1
    · exact ixAll_lt h.2 i e
theorem chkT_lt {t : Tg} {x : Expr} (h : chkT N sc t x = true) : ∀ i ∈ t.all, i < N.length := by
  unfold chkT at h
  split at h
  · simp only [Bool.and_eq_true, decide_eq_true_eq] at h
    intro i hi
    simp only [Tg.all, List.mem_singleton] at hi
    subst hi
    exact (List.getElem?_eq_some_iff.mp h.1).1
  · split at h
    · simp only [Bool.and_eq_true] at h
      exact ixAll_lt h.1.1
    · cases h
  · cases h
theorem pv (hA : AtS T N cl run mt X sc W) {i : Nat} {y : Str} {p : Pos} (h1 : N[i]? = some y) (h2 : visB sc y = true) (h3 : okN y = true) : PE X (.Name y p) (tVar i) :=
  pe_var (by rw [hA.at_.N]; exact h1) (visB_ok h2 hA.at_.scope) (okN_ok h3).1 (okN_ok h3).2
theorem parOk_ns {N : List Str} {sc : Scope} {i j : Nat} {ts : List Expr} {x1 x2 : Expr} (h1 : parOk N sc [i, j] ts [x1, x2] = true) : notStar x1 = true ∧ notStar x2 = true := by
  match ts, h1 with
  | [.Name x px, .Name y py], h1 =>
    simp only [parOk, Bool.and_eq_true] at h1
    exact ⟨h1.1.1.1.2, h1.1.1.2⟩
theorem soundS (hC : CallOk T call run) (hA : AtS T N cl run mt X sc W) : ∀ (ir : IS) (sts : List Stmt), chkS T N ir sc sts = true → SndS X cl W sts (exec call mt ir)
  | .done, sts, h => by
    simp only [chkS, List.isEmpty_iff] at h
    subst h
    exact ss_nil
  | .set m i e k, sts, h => by
    simp only [chkS] at h
    split at h
    · simp only [Bool.and_eq_true, decide_eq_true_eq] at h
      obtain ⟨⟨⟨⟨⟨h1, h2⟩, h3⟩, h4⟩, h5⟩, h6⟩ := h
      obtain ⟨q1, q2⟩ := asg_set hC hA (pos := ‹_›) h1 h2 h3 h5
      have hi : i < X.N.length := ixlt (by rw [hA.at_.N]; exact h1)
      have hk := soundS hC hA k _ h6
      cases m with
      | p => exact ss_set_p hi q1 hk
      | f => exact ss_set_f hi (q2 (by simpa [freshM] using h4)) hk
      | z fz => exact ss_set_z fz hi q1 hk
      | fz fz => exact ss_set_fz fz hi (q2 (by simpa [freshM] using h4)) hk
    · cases h
  | .par m is es k, sts, h => by
    simp only [chkS] at h
    split at h
    · simp only [Bool.and_eq_true] at h
      obtain ⟨⟨h1, h2⟩, h3⟩ := h
      have ha := ((sound hC es X sc W hA.at_).es _ h2).1
      rename_i ts kt pt vs k2 pt2 pos r
      obtain ⟨hl, _, t, asn, ht⟩ := parOk_ok hA (kt := kt) (k2 := k2) (pt := pt) (pt2 := pt2) (pos := pos) h1 ha
      have hk := soundS hC hA k _ h3
      cases m with
      | none => exact ss_par hl asn (fun D σ H q => ht D σ H q (tda_mono)) hk
      | some fz => exact ss_parz fz hl asn (fun D σ H q => ht D σ H q (tda_mono)) hk
    · cases h
  | .par2 o1 o2 i j e1 e2 k, sts, h => by
    simp only [chkS] at h
    split at h
    · simp only [Bool.and_eq_true, decide_eq_true_eq] at h
      obtain ⟨⟨⟨⟨⟨⟨hij, h1⟩, f1⟩, f2⟩, c1⟩, c2⟩, h3⟩ := h
      have hk := soundS hC hA k _ h3
      rename_i ts kt pt x1 x2 k2 pt2 pos r
      have pe : ∀ (o : Bool) (e : IE) (x : Expr), (!o || freshE e) = true → chk T N e sc (.e x) = true → PE X x (tDW o (wh X cl W) (ev call e)) := fun o e x hf hc => by
        cases o with
        | true => exact soundF hC hA.at_ e (by simpa using hf) x hc
        | false => exact ((sound hC e X sc W hA.at_).e _ hc).pe
      have ns : notStar x1 = true ∧ notStar x2 = true := by
        rcases Bool.or_eq_true _ _ |>.mp h1 with h1 | h1
        · exact parOk_ns h1
        · simp only [Bool.and_eq_true] at h1
          exact ⟨h1.1.2, h1.2⟩
      have ha : PA X [x1, x2] (tCons (tDW o1 (wh X cl W) (ev call e1)) (tCons (tDW o2 (wh X cl W) (ev call e2)) tNil)) := pa_cons (pe o1 e1 x1 f1 c1) (pa_cons (pe o2 e2 x2 f2 c2) pa_nil (star_cons ns.2)) (star_cons ns.1)
      have tm : ∀ {o : Bool} {w : Wh} {f : Env → R PyData} {σ : L2.St} {H : Hp} {Q Q' : VK}, (∀ v H1, Q v H1 → Q' v H1) → tDW o w f σ H Q → tDW o w f σ H Q' := fun {o w f σ H Q Q'} m z => by
        cases o with
        | true =>
          obtain ⟨S, ρ, hS, hr, z⟩ := (show tDF w f σ H Q from z)
          exact (show tDF w f σ H Q' from ⟨S, ρ, hS, hr, post_mono z (fun d p => by
            cases d <;> try exact p.elim
            exact fun q vs H' S' g e n s r => m _ _ (p q vs H' S' g e n s r)) fun _ z => z⟩)
        | false =>
          obtain ⟨S, ρ, hS, hr, z⟩ := (show tD w f σ H Q from z)
          exact (show tD w f σ H Q' from ⟨S, ρ, hS, hr, post_mono z (fun d p v H' S' g q => m _ _ (p v H' S' g q)) fun _ z => z⟩)
      rcases Bool.or_eq_true _ _ |>.mp h1 with h1 | h1
      · obtain ⟨hl, _, t, asn, ht⟩ := parOk_ok hA (kt := kt) (k2 := k2) (pt := pt) (pt2 := pt2) (pos := pos) h1 ha
        exact ss_par2 (hl i (by simp)) (hl j (by simp)) hij asn (fun D σ H q => ht D σ H (tm (fun v H1 q2 => tm (fun w H2 q3 => ⟨rfl, q3 H2 (Up.refl _)⟩) q2) q) fun Q Q' m q => tm (fun v H1 q2 => tm (fun w H2 q3 => m _ _ q3) q2) q) hk
      · simp only [Bool.and_eq_true] at h1
        obtain ⟨⟨⟨g1, g2⟩, _⟩, _⟩ := h1
        have pg := chkT_ok hA.at_.calm hA.at_.nd hA.at_.N (sc' := sc) (fun y hy => ⟨locB_ok hy hA.at_.scope, .inl (hA.fn y)⟩) (.many [i, j]) _ g1
        have hl : ∀ i' ∈ (Tg.many [i, j]).all, i' < X.N.length := by rw [hA.at_.N]; exact chkT_lt g1
        refine ss_par2 (hl i (by simp [Tg.all])) (hl j (by simp [Tg.all])) hij (ps_asg (pe_tup ha) pg (sole_no rfl) (swst_cell ?_) rfl) (fun D σ H q => tm (fun v H1 q2 => tm (fun w H2 q3 => ⟨by show 2 ≤ sizeLine; rw [sizeLine_eq]; decide, fun p hp => ⟨p, [v, w], rfl, .inl (.inl upd_same), rfl, q3 _ (up_upd hp (by intro _ z; cases z))⟩⟩) q2) q) hk
        unfold someCell at g2
        rw [List.any_eq_true] at g2
        obtain ⟨t, ht, q⟩ := g2
        refine ⟨t, ht, fun x p e => ?_⟩
        subst e
        intro z
        rw [hA.at_.scope] at z
        simp [localB, z] at q
    · cases h
  | .unp m t e k, sts, h => by
    simp only [chkS] at h
    split at h
    · simp only [Bool.and_eq_true] at h
      obtain ⟨⟨⟨h1, h2⟩, h3⟩, h4⟩ := h
      rename_i tg x pos r
      have hk := soundS hC hA k _ h4
      have pg := chkT_ok hA.at_.calm hA.at_.nd hA.at_.N (sc' := sc) (fun y hy => ⟨locB_ok hy hA.at_.scope, .inl (hA.fn y)⟩) t tg h2
      have he := ((sound hC e X sc W hA.at_).e _ h3).pe
      have hl : ∀ i ∈ t.all, i < X.N.length := by rw [hA.at_.N]; exact chkT_lt h2
      have asn : PS X (.Assign [tg] x pos) (tAsg (tD (wh X cl W) (ev call e)) (gT X.K t)) := by
        unfold unpOk at h1
        split at h1
        · rw [Bool.or_eq_true, Bool.or_eq_true] at h1
          rcases h1 with h1 | h1 | h1
          · exact ps_asg he pg (sole_no rfl) (swst_const h1 hA.kind) rfl
          · refine ps_asg he pg (sole_no rfl) (swst_cell ?_) rfl
            unfold someCell at h1
            rw [List.any_eq_true] at h1
            obtain ⟨t, ht, q⟩ := h1
            refine ⟨t, ht, fun x p e => ?_⟩
            subst e
            intro z
            rw [hA.at_.scope] at z
            simp [localB, z] at q
          · exact ps_asg he pg (sole_no rfl) (swst_len (by simpa using h1)) rfl
        · rename_i hne
          refine ps_asg he pg (sole_no h1) (swst_tup ?_) rfl
          cases x <;> first | rfl | exact (hne _ _ _ rfl).elim
        · cases h1
      cases m with
      | none => exact ss_unp hl asn hk
      | some fz => exact ss_unpz fz hl asn hk
    · cases h
  | .app i e k, sts, h => by
    simp only [chkS] at h
    split at h
    · simp only [Bool.and_eq_true, decide_eq_true_eq] at h
      obtain ⟨⟨⟨⟨⟨⟨⟨h1, h2⟩, h3⟩, h4⟩, h5⟩, h6⟩, h7⟩, h8⟩ := h
      subst h4
      have he := ((sound hC e X sc W hA.at_).e _ h7).pe
      refine ss_app (ta := tCons (tD (wh X cl W) (ev call e)) tNil) (ps_expr (pe_bm PySem.F.plainAttrs_list PySem.F.slot_list_append PySem.F.type_list_append mt_append (pv hA h1 h2 h3) (pa_cons he pa_nil (star_cons h6)) rfl (few_one h6) h5 (star_cons h6) rfl) rfl) (fun σ H Q z => z) (soundS hC hA k _ h8)
    · cases h
  | .sto i ix e k, sts, h => by
    simp only [chkS] at h
    split at h
    · simp only [Bool.and_eq_true, decide_eq_true_eq] at h
      obtain ⟨⟨⟨⟨⟨⟨⟨h1, h2⟩, h3⟩, h4⟩, h5⟩, h6⟩, h7⟩, h8⟩ := h
      exact ss_sto (ps_asg ((sound hC e X sc W hA.at_).e _ h7).pe (pg_sub (pv hA h1 h2 h3) ((sound hC ix X sc W hA.at_).e _ h6).pe set_list (asg_sub h4)) (sole_no h5) swst_sub rfl) (soundS hC hA k _ h8)
    · cases h
  | .aug o i e k, sts, h => by
    simp only [chkS] at h
    split at h
    · simp only [Bool.and_eq_true, decide_eq_true_eq] at h
      obtain ⟨⟨⟨⟨⟨h1, h2⟩, h3⟩, h4⟩, h5⟩, h6⟩ := h
      subst h3
      rename_i y p1 x p2 r
      have hN : X.N[i]? = some y := by rw [hA.at_.N]; exact h1
      have he := ((sound hC e X sc W hA.at_).e _ h5).pe
      have ip : PIp X o.op (ipI (augOp o)) := by
        cases o <;> first | exact ip_add | exact ip_sub | cases h4
      exact ss_aug (ixlt hN) (ps_aug hA.at_.nd hN (locB_ok h2 hA.at_.scope) he ip (.inl (hA.fn _))) (soundS hC hA k _ h6)
    · cases h
  | .expr e k, sts, h => by
    simp only [chkS] at h
    split at h
    · simp only [Bool.and_eq_true] at h
      obtain ⟨⟨h1, h2⟩, h3⟩ := h
      exact ss_expr (ps_expr ((sound hC e X sc W hA.at_).e _ h2).pe (sw_no h1)) (soundS hC hA k _ h3)
    · cases h
  | .ret e, sts, h => by
    simp only [chkS] at h
    split at h
    · exact ss_ret (ps_ret ((sound hC e X sc W hA.at_).e _ h).pe)
    · cases h
  | .ite c a b k, sts, h => by
    simp only [chkS] at h
    split at h
    · simp only [Bool.and_eq_true] at h
      obtain ⟨⟨⟨h1, h2⟩, h3⟩, h4⟩ := h
      exact ss_ite (ps_if ((sound hC c X sc W hA.at_).e _ h1).pt (soundS hC hA a _ h2) (soundS hC hA b _ h3)) (soundS hC hA k _ h4)
    · cases h
  | .for_ t fz it body k, sts, h => by
    simp only [chkS] at h
    split at h
    · simp only [Bool.and_eq_true] at h
      obtain ⟨⟨⟨⟨h1, h2⟩, h3⟩, h4⟩, h5⟩ := h
      rename_i tg x p pos r
      have pg := chkT_ok hA.at_.calm hA.at_.nd hA.at_.N (sc' := sc) (fun y hy => ⟨locB_ok hy hA.at_.scope, .inl (hA.fn y)⟩) t tg h1
      have hl : ∀ i ∈ t.all, i < X.N.length := by rw [hA.at_.N]; exact chkT_lt h1
      exact ss_for fz hl (ps_for hA.po hA.at_.calm ((sound hC it X sc W hA.at_).it tg x h3) pg (soundS hC hA body _ h4) (notSet_ok h2)) (soundS hC hA k _ h5)
    · cases h
  | .while_ n c body k, sts, h => by
    simp only [chkS] at h
    split at h
    · simp only [Bool.and_eq_true] at h
      obtain ⟨⟨h1, h2⟩, h3⟩ := h
      exact ss_while n (ps_while hA.po ((sound hC c X sc W hA.at_).e _ h1).pt (soundS hC hA body _ h2)) (soundS hC hA k _ h3)
    · cases h
  | .raise c, sts, h => by
    simp only [chkS] at h
    split at h
    · have nm := exN_ok hA h
      unfold exN at h
      simp only [Bool.and_eq_true, decide_eq_true_eq] at h
      exact ss_raise (ps_raise hA.at_.calm hA.at_.tk ((hA.exs c _ h.1.1).2 _ _ _ _ _ nm.1 nm.2.1))
    · cases h
  | .try_ b hs k, sts, h => by
    simp only [chkS] at h
    split at h
    · simp only [Bool.and_eq_true] at h
      obtain ⟨⟨h1, h2⟩, h3⟩ := h
      obtain ⟨l, hl⟩ := soundHs (call := call) hA hs _ h2
      exact ss_try hA.hs hA.hf hA.at_.tk hA.exm (fun W' pn xe tk po => soundQ hC (hA.at_.tr pn xe tk) b _ h1) hl (soundS hC hA k _ h3)
    · cases h
  | .pas k, sts, h => by
    simp only [chkS] at h
    split at h
    · exact pss_imp (pss_cons ps_pass (soundS hC hA k _ h)) fun D σ H z => z
    · cases h
  | .fgt fz k, sts, h => by
    simp only [chkS] at h
    exact ss_fgt fz (soundS hC hA k _ h)
end
end DL
namespace DL
open PySem PySem.Spec PyProof.Rows L2
variable [Tabs]
open Classical

/-! ### what the defs of a table give, to a depth -/
def envOf (n : Nat) (xs : List PyData) : Env := xs.map Sl.sh ++ List.replicate (n - xs.length) .un
def fin (r : R Fl) : R PyData := match r with
  | .ok (.next _) => .ok .none
  | .ok (.ret d) => .ok d
  | .ex c => .ex c
  | .bad => .bad
def callT (T : Tab) (run : Nat → List PyData → R PyData) (j : Nat) (xs : List PyData) : R PyData := match T.fns[j]? with
  | some f => run j (xs ++ padOf f xs.length)
  | none => .bad
def runs (T : Tab) (bs : List (Nat × IS)) (mt : Nat → Nat → Option Bool) : Nat → Nat → List PyData → R PyData
  | 0, _, _ => .bad
  | d + 1, j, xs => match bs[j]? with
    | some (n, B) => fin (exec (callT T (runs T bs mt d)) mt B (envOf n xs))
    | none => .bad
omit [Tabs] in
theorem callT_ok (T : Tab) (run : Nat → List PyData → R PyData) : CallOk T (callT T run) run := fun j f xs h => by
  unfold callT
  rw [h]
/-- written arguments and defaults reach the def -/
def BindD (K : PySem.W.Frag) (f : FnI) (fd : FuncData) : Prop := ∀ n, n ≤ f.ps.length → f.ps.length - n ≤ f.dfl.length → ∃ dvs ds, Vals dvs ds ∧ (∀ S, RpA K S (padOf f n) dvs) ∧ Binds K fd f.ps ds
/-- what is known of one def; cs: the code objects that have tables -/
structure FnFact (K : PySem.W.Frag) (mg : Str → Option Value) (T : Tab) (bs : List (Nat × IS)) (cs : List (Addr × Addr)) (j : Nat) (f : FnI) (g : Addr) (fd : FuncData) : Prop where
  at_ : mg f.nm = some (.ref g)
  bind : BindD K f fd
  ex : ∃ (N : List Str) (B : IS) (qual : Str) (params : Arguments) (body : List Stmt) (scope : Scope) (dvs : List V) (kws : List (Str × V)) (gn : Nat), FunD K f.nm qual params body scope dvs kws g fd ∧ FnScope N f.ps scope ∧ bs[j]? = some (N.length, B) ∧ gn ≤ T.gn ∧
    chkS { T with gn := gn, gb := true } N B scope body = true ∧ (gn ≠ 0 → ∃ c P, fd.code = .ref c ∧ (c, P) ∈ cs)
structure TabFact (P : Program) (w : World) (K : PySem.W.Frag) (mg : Str → Option Value) (T : Tab) (bs : List (Nat × IS)) (cs : List (Addr × Addr)) (cl : Nat → Value) (mt : Nat → Nat → Option Bool) : Prop where
  fns : ∀ (j : Nat) (f : FnI), T.fns[j]? = some f → ∃ g fd, FnFact K mg T bs cs j f g fd
  gls : ∀ (j : Nat) (x : Str) (d : PyData), T.gls[j]? = some (x, d) → ∃ v u, mg x = some u ∧ RelV v u ∧ ∀ S, Rp K S d v
  bls : ∀ x ∈ T.bls, mg x = none
  exs : ∀ (c : Nat) (y : Str), T.exs[c]? = some y → ∃ C, cl c = .ref C ∧ mg y = some (.ref C) ∧ PySem.W.excIn K C He.veBase "ValueError.__new__" = true ∧ PySem.W.keepIn K (.ref C) = true ∧ PySem.W.subIn K (.ref C) (.type "BaseException") = some true ∧ PySem.W.typeIn K (.ref C) = some (.type "type")
  exm : ∀ c c' b, mt c c' = some b → PySem.W.exmOne K (cl c) (cl c') = some b
/-- what is known of the heap that stays -/
structure BaseOk (T : Tab) (cs : List (Addr × Addr)) (mg : Str → Option Value) (base : Heap) : Prop where
  cd : ∀ p ∈ cs, PySem.W.CodeHd base p.1 p.2
  bt : T.gn ≠ 0 → ∃ bm o, mg "__builtins__" = some (.ref bm) ∧ bm ≠ builtinsNs ∧ base.get? bm = some o ∧ o.cls = .type "module" ∧ o.dict = some builtinsNs ∧ o.data = .plain
omit [Tabs] in
theorem fund_ok {CX : CXT} {N ps : List Str} {k : Nat} {sp : Sp} {P : Program} {w : World} {K : PySem.W.Frag} {mg : Str → Option Value} {base : Heap} {x qual : Str} {params : Arguments} {body : List Stmt} {scope : Scope} {dvs : List V} {kws : List (Str × V)} {f : Addr} {fd : FuncData}
    (F : FunD K x qual params body scope dvs kws f fd) (S : FnScope N ps scope) (len : ∀ vs H Q E, sp vs H Q E → vs.length = ps.length)
    (hbody : ∀ (A : Around) (outer : List PySem.Env) (s : Shared) (H : Hp) (vs : List V) (Q : VK) (E : XK), Room k (A.deeper (envOfC qual scope s.heap.objs.size f fd.code)) → sp vs H Q E →
      ∃ t, PSs (cxOf CX P w K mg base N qual scope f fd.code A outer s H E) body t ∧ t { nx := fun _ H' => Q .non H', rt := Q } (L2.start N vs) H) : FnOk P w K mg base CX (k + 1) f fd ps sp := by
  obtain ⟨oc, od, dV, kV, doc, pm, an, cdv, ct, osl, rfl, lk, hcd, _, _⟩ := F.ex
  exact fn_of lk hcd S len fun A outer s H vs Q E hr hsp => hbody A outer s H vs Q E hr hsp
theorem envR_start {K : PySem.W.Frag} {H S : Hp} {N : List Str} {vs : List V} {ds : List PyData} (hS : In S H) (hr : RpA K S ds vs) : EnvR K H S (L2.start N vs) (envOf N.length ds) (fun _ => []) where
  sub := hS
  slot := fun i s e => by
    unfold envOf at e
    have hl := hr.length
    by_cases c : i < ds.length
    · rw [List.getElem?_append_left (by rw [List.length_map]; exact c), List.getElem?_map, List.getElem?_eq_getElem c] at e
      cases e
      obtain ⟨v, e1, e2⟩ := hr.get (List.getElem?_eq_getElem c)
      refine ⟨rfl, v, ?_, e2⟩
      unfold L2.start
      rw [List.getElem?_append_left (by rw [List.length_map]; omega), List.getElem?_map, e1]
      rfl
    · rw [List.getElem?_append_right (by rw [List.length_map]; omega), List.getElem?_replicate] at e
      split at e
      · cases e; exact rfl
      · cases e
  out := fun _ _ => rfl
  nd := fun _ => List.nodup_nil
  apart := fun _ _ _ h _ => by cases h
  free := fun _ _ h => by cases h
theorem chg0 {H S H' S' : Hp} (h : Chg (fun _ => []) H S H' S') (s : In S' H') : Grow H S H' S' := ⟨⟨fun b o e => h.keep b o e (fun ⟨_, z⟩ => by cases z), h.tk⟩, h.s, s, fun b e n => (h.new b e n).resolve_right fun ⟨_, z⟩ => by cases z⟩
section
variable {P : Program} {w : World} {K : PySem.W.Frag} {mg : Str → Option Value} {base : Heap} {T : Tab} {bs : List (Nat × IS)} {cs : List (Addr × Addr)} {cl : Nat → Value} {mt : Nat → Nat → Option Bool}
theorem fn_all (hcs : Tabs.cs = cs.map (·.2)) (TF : TabFact P w K mg T bs cs cl mt) (BO : BaseOk T cs mg base) : ∀ (d j : Nat) (f : FnI) (g : Addr) (fd : FuncData), T.fns[j]? = some f → FnFact K mg T bs cs j f g fd → FnOk P w K mg base (CX P w) (d * (T.gn + 1)) g fd f.ps (spD K cl (runs T bs mt d j) f.ps.length)
  | 0, j, f, g, fd, hj, hf => ⟨fun vs H Q E h => h.1, fun A outer s H args us vs Q E _ _ _ _ h => by
      obtain ⟨_, S, ds, _, _, z⟩ := h
      exact z.elim⟩
  | d + 1, j, f, g, fd, hj, hf => by
    obtain ⟨N, B, qual, params, body, scope, dvs, kws, gn, F, S, hb, hgn, hc, hcode⟩ := hf.ex
    have ek : (d + 1) * (T.gn + 1) = d * (T.gn + 1) + T.gn + 1 := by rw [Nat.succ_mul]; omega
    rw [ek]
    refine fund_ok F S (fun vs H Q E h => h.1) fun A outer s H vs Q E hr h => ?_
    obtain ⟨hl, S0, ds, hS, hrp, hp⟩ := h
    have hcd : gn ≠ 0 → ∃ c Pt, (cxOf (CX P w) P w K mg base N qual scope g fd.code A outer s H E).env.code = .ref c ∧ PySem.W.CodeHd base c Pt ∧ Pt ∈ Tabs.cs := fun n => by
      obtain ⟨c, Pt, e1, e2⟩ := hcode n
      exact ⟨c, Pt, e1, BO.cd (c, Pt) e2, by rw [hcs]; exact List.mem_map.mpr ⟨(c, Pt), e2, rfl⟩⟩
    have hA : AtS { T with gn := gn, gb := true } N cl (runs T bs mt d) mt (cxOf (CX P w) P w K mg base N qual scope g fd.code A outer s H E) scope (fun cls d _ H => E cls d H) := {
      at_ := {
        calm := rfl
        nd := S.nd
        N := rfl
        scope := rfl
        hu := hr.units
        tk := takes_of rfl rfl rfl rfl
        fns := fun j' f' h' => by
          obtain ⟨g', fd', ff⟩ := TF.fns j' f' h'
          obtain ⟨_, _, _, _, _, _, _, _, _, F', _⟩ := ff.ex
          exact ⟨d * (T.gn + 1), g', fd', hr.mono (Nat.add_le_add_left hgn _), ff.at_, F'.kp, fn_all hcs TF BO d j' f' g' fd' h' ff, ff.bind⟩
        gls := TF.gls
        bls := TF.bls
        rm := hr.mono (Nat.le_trans hgn (Nat.le_add_left _ _))
        built := fun n => BO.bt (by have n : gn ≠ 0 := n; omega)
        code := fun n pn' xe' pins σ' H' s' I t => by
          obtain ⟨c, Pt, e1, e2, e3⟩ := hcd n
          obtain ⟨ps, e4⟩ := t.cs Pt e3
          exact ⟨c, Pt, ps, e1, e2.keeps I.bk, e4⟩
        codeB := fun _ n => hcd n }
      kind := S.kind
      po := passes_of rfl
      hs := rfl
      hf := rfl
      fn := fun _ => rfl
      exs := fun c y h => by
        obtain ⟨C, e1, e2, e3, e4, e5, e6⟩ := TF.exs c y h
        refine ⟨by rw [e1]; exact e2, fun m jj p p2 pos hg hd => ?_⟩
        rw [e1]
        exact pmk_own PySem.F.excBase_ValueError e3 e2 e4 (raises_own e5 e6) hg hd
      exm := TF.exm }
    refine ⟨_, soundS (T := { T with gn := gn, gb := true }) (callT_ok T _) hA B body hc, ?_⟩
    have hp : post (fin (exec (callT T (runs T bs mt d)) mt B (envOf N.length ds))) (fun d => ∀ v H' S', Grow H S0 H' S' → Rp K S' d v → Q v H') (fun c => ∀ H', Up H H' → E (cl c) none H') := by
      have hp := hp
      unfold runs at hp
      rw [hb] at hp
      exact hp
    refine tSt_def.mpr ⟨S0, envOf N.length ds, fun _ => [], envR_start hS hrp, ?_⟩
    cases q : exec (callT T (runs T bs mt d)) mt B (envOf N.length ds) with
    | ok r =>
      rw [q] at hp
      cases r with
      | next ρ => exact fun σ' H' S' F' env c u l => hp .non H' S' (chg0 c env.sub) (by simp only [Rp])
      | ret x => exact fun v H' S' s c r => hp v H' S' (chg0 c s) r
    | ex c =>
      rw [q] at hp
      exact fun σ' H' k => hp H' ⟨fun b o e => k.keep b o e (fun ⟨_, z⟩ => by cases z), k.tk⟩
    | bad => rw [q] at hp; exact hp.elim
end
end DL
namespace DL
open PySem PySem.Spec PyProof.Rows L2
variable [Tabs]
section
variable {K : PySem.W.Frag} {f : FnI} {fd : FuncData} {dvs : List V}
theorem bind_plain (hd : f.dfl = []) (b : Binds K fd f.ps []) : BindD K f fd := fun n _ _ => ⟨[], [], .nil, fun S => by
  unfold padOf
  rw [hd, List.drop_nil]
  exact RpA.nil, b⟩
theorem bind_1 {m : Nat} (h1 : f.dfl.length = 1) (h2 : f.ps.length = m + 1) (b0 : ∃ ds, Vals (dvs.drop 0) ds ∧ Binds K fd f.ps ds) (b1 : ∃ ds, Vals (dvs.drop 1) ds ∧ Binds K fd f.ps ds) (hr : ∀ S, RpA K S f.dfl dvs) : BindD K f fd := fun n hn hle => by
  rw [h1, h2] at hle
  rw [h2] at hn
  have e : n = m ∨ n = m + 1 := by omega
  rcases e with rfl | rfl
  · obtain ⟨ds, v, b⟩ := b0
    refine ⟨_, ds, v, fun S => ?_, b⟩
    unfold padOf
    rw [h1, h2, show 1 - (n + 1 - n) = 0 by omega]
    exact hr S
  · obtain ⟨ds, v, b⟩ := b1
    refine ⟨_, ds, v, fun S => ?_, b⟩
    unfold padOf
    rw [h1, h2, show 1 - (m + 1 - (m + 1)) = 1 by omega]
    exact (hr S).drop 1
theorem bind_2 {m : Nat} (h1 : f.dfl.length = 2) (h2 : f.ps.length = m + 2) (b0 : ∃ ds, Vals (dvs.drop 0) ds ∧ Binds K fd f.ps ds) (b1 : ∃ ds, Vals (dvs.drop 1) ds ∧ Binds K fd f.ps ds) (b2 : ∃ ds, Vals (dvs.drop 2) ds ∧ Binds K fd f.ps ds) (hr : ∀ S, RpA K S f.dfl dvs) : BindD K f fd := fun n hn hle => by
  rw [h1, h2] at hle
  rw [h2] at hn
  have e : n = m ∨ n = m + 1 ∨ n = m + 2 := by omega
  rcases e with rfl | rfl | rfl
  · obtain ⟨ds, v, b⟩ := b0
    refine ⟨_, ds, v, fun S => ?_, b⟩
    unfold padOf
    rw [h1, h2, show 2 - (n + 2 - n) = 0 by omega]
    exact hr S
  · obtain ⟨ds, v, b⟩ := b1
    refine ⟨_, ds, v, fun S => ?_, b⟩
    unfold padOf
    rw [h1, h2, show 2 - (m + 2 - (m + 1)) = 1 by omega]
    exact (hr S).drop 1
  · obtain ⟨ds, v, b⟩ := b2
    refine ⟨_, ds, v, fun S => ?_, b⟩
    unfold padOf
    rw [h1, h2, show 2 - (m + 2 - (m + 2)) = 2 by omega]
    exact (hr S).drop 2
end
theorem gl_tup {K : PySem.W.Frag} {S : Hp} {a : Addr} {vs : List V} {ds : List PyData} (h : SqT K S a vs) (r : RpA K S ds vs) : Rp K S (.tuple ds) (.ref a) := by
  simp only [Rp]
  exact ⟨a, vs, rfl, h, r⟩
/-- nothing gets out of the law -/
def noE : XK := fun _ _ _ => False
theorem fn_quiet {P : Program} {w : World} {K : PySem.W.Frag} {mg : Str → Option Value} {base : Heap} {k : Nat} {g : Addr} {fd : FuncData} {ps : List Str} {sp : Sp} (F : FnOk P w K mg base (CX P w) k g fd ps sp) :
    FnOk P w K mg base CX0 k g fd ps (fun vs H Q _ => sp vs H Q noE) := ⟨fun vs H Q _ h => F.len vs H Q noE h, fun A outer s H args us vs Q E r e0 b v h => codeAny_mono (F.run A outer s H args us vs Q noE r e0 b v h) fun r s' hq => by
    cases r with
    | error e =>
      obtain ⟨_, _, _, _, _, _, _, _, _, _, _, _, z⟩ := hq
      exact z.elim
    | ok fl => cases fl <;> exact hq⟩
/-- H without its tables -/
def plainH (H : Hp) : Hp := fun b => match H b with
  | some (.tbl _) => none
  | o => o
theorem plainH_some {H : Hp} {b : Addr} {o : HO} (e : H b = some o) (n : ∀ ps, o ≠ .tbl ps) : plainH H b = some o := by
  unfold plainH
  rw [e]
  cases o <;> first | rfl | exact absurd rfl (n _)
theorem plainH_in {H : Hp} (t : TkOk H) : In (plainH H) H := ⟨fun b o e => by
  unfold plainH at e
  split at e
  · cases e
  · exact e, fun b ps e => by
  unfold plainH at e
  split at e
  · cases e
  · rename_i h; exact h ps e, t⟩
/-- the law's promise over its script -/
theorem law_says {K : PySem.W.Frag} {cl : Nat → Value} {run : List PyData → R PyData} {H : Hp} {a : Addr} {ns : List Int} (t : TkOk H) (hS : SqL K H a (ns.map V.int)) (h : run [locked (ns.map PyData.int)] = .ok (.bool true)) :
    spD K cl run 1 [V.ref a] H (fun v _ => v = V.bl true) noE := by
  refine ⟨rfl, plainH H, [locked (ns.map PyData.int)], plainH_in t, ?_, ?_⟩
  · refine RpA.cons ?_ RpA.nil
    unfold locked
    simp only [Rp]
    refine ⟨a, ns, rfl, rfl, ?_⟩
    rcases hS with (q | ⟨o, q⟩) | q
    · exact .inl (.inl (plainH_some q fun ps z => by cases z))
    · exact .inl (.inr ⟨o, plainH_some q fun ps z => by cases z⟩)
    · exact .inr q
  · rw [h]
    intro v H' S' g r
    simpa only [Rp] using r

/-! ### the law over its script and the tables -/
def lawSp (cs : List (Addr × Addr)) (K : PySem.W.Frag) : Sp := fun vs H Q _ => ∃ (a : Addr) (ns : List Int), vs = [V.ref a] ∧ (∀ p ∈ cs, H p.2 = some (.tbl #[])) ∧ SqL K H a (ns.map V.int) ∧ ∀ H', Q (.bl true) H'
section
open Classical
/-- the script and the tables alone -/
noncomputable def lessH (cs : List (Addr × Addr)) (H : Hp) (a : Addr) : Hp := fun b => if b ∈ cs.map (·.2) then H b else if b = a ∧ ((∃ xs, H b = some (.lst xs)) ∨ ∃ o xs, H b = some (.frz o (.lst xs))) then H b else none
variable {cs : List (Addr × Addr)} {H : Hp} {a : Addr}
omit [Tabs] in
theorem lessH_sub : Sub (lessH cs H a) H := fun b o e => by
  unfold lessH at e
  split at e
  · exact e
  · split at e
    · exact e
    · cases e
omit [Tabs] in
theorem lessH_kind (hT : ∀ p ∈ cs, H p.2 = some (.tbl #[])) {b : Addr} {o : HO} (e : lessH cs H a b = some o) : (o = .tbl #[] ∧ b ∈ cs.map (·.2)) ∨ (∃ xs, o = .lst xs) ∨ ∃ ob xs, o = .frz ob (.lst xs) := by
  have e2 := lessH_sub b o e
  unfold lessH at e
  split at e
  · rename_i h
    obtain ⟨p, hp, ep⟩ := List.mem_map.mp h
    have := hT p hp
    rw [ep, e2] at this
    cases this
    exact .inl ⟨rfl, h⟩
  · split at e
    · rename_i h
      rcases h.2 with ⟨xs, q⟩ | ⟨ob, xs, q⟩
      · rw [q] at e2; cases e2; exact .inr (.inl ⟨xs, rfl⟩)
      · rw [q] at e2; cases e2; exact .inr (.inr ⟨ob, xs, rfl⟩)
    · cases e
theorem lessH_tk (hcs : Tabs.cs = cs.map (·.2)) (hT : ∀ p ∈ cs, H p.2 = some (.tbl #[])) : TkOk (lessH cs H a) where
  all := fun P ps e => by
    rcases lessH_kind hT e with ⟨z, _⟩ | ⟨xs, z⟩ | ⟨ob, xs, z⟩
    · cases z
      exact ⟨trivial, fun pos c hc => by simp [codeAmong] at hc⟩
    · cases z
    · cases z
  cs := fun P hP => by
    rw [hcs] at hP
    obtain ⟨p, hp, ep⟩ := List.mem_map.mp hP
    refine ⟨#[], ?_⟩
    unfold lessH
    rw [if_pos hP, ← ep]
    exact hT p hp
omit [Tabs] in
theorem lessH_sq {K : PySem.W.Frag} {xs : List V} (hT : ∀ p ∈ cs, H p.2 = some (.tbl #[])) (h : SqL K H a xs) : SqL K (lessH cs H a) a xs := by
  have key : ∀ o, H a = some o → ((∃ xs, H a = some (.lst xs)) ∨ ∃ o xs, H a = some (.frz o (.lst xs))) → lessH cs H a a = some o := fun o e q => by
    unfold lessH
    split
    · exact e
    · rw [if_pos ⟨rfl, q⟩]; exact e
  rcases h with (q | ⟨o, q⟩) | q
  · exact .inl (.inl (key _ q (.inl ⟨_, q⟩)))
  · exact .inl (.inr ⟨o, key _ q (.inr ⟨_, _, q⟩)⟩)
  · exact .inr q
/-- what else stood stands -/
noncomputable def backH (H H0 H1 : Hp) : Hp := fun b => if H b ≠ none ∧ H0 b = none then H b else H1 b
theorem law_frame {P : Program} {w : World} {K : PySem.W.Frag} {mg : Str → Option Value} {base : Heap} {k : Nat} {g : Addr} {fd : FuncData} {ps : List Str} {sp0 : List V → Hp → VK → Prop} (hcs : Tabs.cs = cs.map (·.2)) (hps : ps.length = 1)
    (F : FnOk P w K mg base CX0 k g fd ps (fun vs H Q _ => sp0 vs H Q)) (h0 : ∀ (H : Hp) (a : Addr) (ns : List Int), TkOk H → SqL K H a (ns.map V.int) → sp0 [V.ref a] H (fun v _ => v = V.bl true)) : FnOk P w K mg base CX0 k g fd ps (lawSp cs K) := by
  refine ⟨fun vs H Q E ⟨a, ns, e, _⟩ => by subst e; exact hps.symm, fun A outer s H args us vs Q E r e0 hb rv h => ?_⟩
  obtain ⟨a, ns, e, hT, hS, hQ⟩ := h
  subst e
  generalize eH0 : lessH cs H a = H0
  have sub : Sub H0 H := by rw [← eH0]; exact lessH_sub
  have kind : ∀ {b o}, H0 b = some o → (o = .tbl #[] ∧ b ∈ cs.map (·.2)) ∨ (∃ xs, o = .lst xs) ∨ ∃ ob xs, o = .frz ob (.lst xs) := fun {b o} e => by rw [← eH0] at e; exact lessH_kind hT e
  have none_ : ∀ b, H b = none → H0 b = none := fun b n => sub.none n
  have s0 : Env0 P w K mg base A outer s H0 := by
    refine ⟨e0.frames, e0.mod, fun b o e => ⟨(e0.bs b o e).1, none_ b (e0.bs b o e).2⟩, e0.bsz, e0.funs, fun b hb => none_ b (e0.frf b hb), fun b o e => ?_, e0.bare⟩
    have q := e0.hok b o (sub b o e)
    refine (show ObjOk P w H0 s.heap b o from ?_)
    rcases kind e with ⟨z, _⟩ | ⟨xs, z⟩ | ⟨ob, xs, z⟩
    · subst z; exact q
    · subst z; exact q
    · subst z; exact q
  have run := F.run A outer s H0 args us [V.ref a] (fun v _ => v = V.bl true) E r s0 hb rv (h0 H0 a ns (by rw [← eH0]; exact lessH_tk hcs hT) (by rw [← eH0]; exact lessH_sq hT hS))
  refine codeAny_mono run fun res s' hr => ?_
  cases res with
  | error e => exact hr
  | ok fl =>
    cases fl with
    | ret u =>
      obtain ⟨v, H1, os, ag, un, hok, rel, ev⟩ := hr
      subst ev
      have old : ∀ b o, H b = some o → H0 b = none → (∀ u, s.heap.get? b = some u → s'.heap.get? b = some u) ∧ H1 b = none := fun b o e n => by
        have hf : b ∉ frs outer := fun z => by rw [e0.frf b z] at e; cases e
        refine ⟨fun u q => un.keep b u q n hf (by simp), ?_⟩
        obtain ⟨u, q⟩ : ∃ u, s.heap.get? b = some u := by
          have hl := e0.hok.lt e
          cases q : s.heap.get? b with
          | some u => exact ⟨u, rfl⟩
          | none =>
            have z := e0.hok b o e
            exfalso
            revert z
            cases o <;> intro z
            case lst => obtain ⟨_, _, _, _, z⟩ := z; rw [q] at z; cases z
            case tup => obtain ⟨_, _, _, ob, z, _⟩ := z; rw [q] at z; cases z
            case dK => obtain ⟨_, _, _, _, ob, _, _, z, _⟩ := z; rw [q] at z; cases z
            case dT => obtain ⟨_, _, _, _, ob, _, _, z, _⟩ := z; rw [q] at z; cases z
            case set => obtain ⟨ob, _, _, _, z, _⟩ := z; rw [q] at z; cases z
            case ins => obtain ⟨_, _, _, z, _⟩ := z; rw [q] at z; cases z
            case own => obtain ⟨_, z⟩ := z; rw [q] at z; cases z
            case xd => obtain ⟨_, ⟨_, _, _, z, _⟩, _⟩ := z; rw [q] at z; cases z
            case rng => obtain ⟨_, _, _, z⟩ := z; rw [q] at z; cases z
            case frz => obtain ⟨z, _⟩ := z; rw [q] at z; cases z
            case tbl => have z : s.heap.get? b = some _ := z; rw [q] at z; cases z
            case met => have z : s.heap.get? b = some _ := z; rw [q] at z; cases z
            case ext => obtain ⟨_, ⟨_, z⟩, _⟩ := z; rw [q] at z; cases z
        exact un.free b u q n (by simp)
      have atO : ∀ b o, H b = some o → H0 b = none → backH H H0 H1 b = some o := fun b o e n => by
        unfold backH
        rw [if_pos ⟨by rw [e]; simp, n⟩]; exact e
      have atN : ∀ b, H b = none ∨ H0 b ≠ none → backH H H0 H1 b = H1 b := fun b n => by
        unfold backH
        rw [if_neg]
        rintro ⟨q1, q2⟩
        rcases n with n | n
        · exact q1 n
        · exact n q2
      have up : ∀ b o, H1 b = some o → backH H H0 H1 b = some o := fun b o e => by
        by_cases q : H b ≠ none ∧ H0 b = none
        · obtain ⟨u1, hu⟩ := Option.ne_none_iff_exists'.mp q.1
          rw [(old b u1 hu q.2).2] at e; cases e
        · unfold backH; rw [if_neg q]; exact e
      have keepT : ∀ b o, H b = some o → (∀ o', H0 b = some o' → H1 b = some o') → backH H H0 H1 b = some o := fun b o e f => by
        cases q : H0 b with
        | none => exact atO b o e q
        | some o' =>
          have e1 := sub b o' q
          rw [e] at e1
          cases e1
          rw [atN b (.inr (by rw [q]; simp))]
          exact f _ q
      refine ⟨_, backH H H0 H1, os, ag, ⟨fun b o q n hf hx => un.keep b o q (none_ b n) hf hx, fun b o q n hf hx => un.slot b o q (none_ b n) hf hx, fun b o q n hx => ?_, un.there, fun b xs q => ?_, fun b o u q => ?_, fun b qs q => ?_⟩, fun b o e => ?_, rel, hQ _⟩
      · rw [atN b (.inl n)]
        exact un.free b o q (none_ b n) hx
      · exact keepT b _ q fun o' z => by
          have e1 := sub b o' z
          rw [q] at e1; cases e1
          exact un.tups b xs z
      · exact keepT b _ q fun o' z => by
          have e1 := sub b o' z
          rw [q] at e1; cases e1
          exact un.frzs b o u z
      · cases z : H0 b with
        | none => exact ⟨#[], by rw [atO b _ q z]; simp⟩
        | some o' =>
          have e1 := sub b o' z
          rw [q] at e1; cases e1
          obtain ⟨more, e2⟩ := un.tbls b qs z
          exact ⟨more, up b _ e2⟩
      · by_cases q : H b ≠ none ∧ H0 b = none
        · obtain ⟨u0, hu⟩ := Option.ne_none_iff_exists'.mp q.1
          skip
          have e2 := atO b u0 hu q.2
          rw [e2] at e
          have e := Option.some.inj e
          rw [← e]
          refine (e0.hok b u0 hu).stay (fun c v hc z => ?_) (fun c z => ?_) fun c xs z => ?_
          · rcases hc with hc | hc
            · rw [hc] at z ⊢; exact (old b u0 hu q.2).1 v z
            · refine (old c _ hc ?_).1 v z
              cases n : H0 c with
              | none => rfl
              | some o' =>
                have e1 := sub c o' n
                rw [hc] at e1; cases e1
                rcases kind n with ⟨z, _⟩ | ⟨xs, z⟩ | ⟨ob, xs, z⟩ <;> cases z
          · refine keepT c _ z fun o' n => ?_
            have e1 := sub c o' n
            rw [z] at e1; cases e1
            rcases kind n with ⟨z, _⟩ | ⟨xs, z⟩ | ⟨ob, xs, z⟩ <;> cases z
          · refine keepT c _ z fun o' n => ?_
            have e1 := sub c o' n
            rw [z] at e1; cases e1
            rcases kind n with ⟨z, _⟩ | ⟨xs, z⟩ | ⟨ob, xs, z⟩ <;> cases z
        · have e2 : backH H H0 H1 b = H1 b := by unfold backH; rw [if_neg q]
          rw [e2] at e
          exact (hok b o e).stay (fun c v _ z => z) (fun c z => up c _ z) fun c xs z => up c _ z
    | next => exact hr
    | brk => exact hr
    | cont => exact hr
end
end DL
namespace DL
open PySem PySem.Spec PyProof.Rows L2
/-! ### the same reading, by recursors (the kernel is quicker at it) -/
noncomputable section
def bF {α β : Type} (r : R α) (f : α → R β) : R β := R.rec (motive := fun _ => R β) f R.ex R.bad r
theorem bF_eq {α β : Type} (r : R α) (f : α → R β) : bF r f = r.bind f := by cases r <;> rfl
/-- a number, or else -/
def iF {β : Type} (d : PyData) (f : Int → β) (z : β) : β := PyData.casesOn (motive_1 := fun _ => β) d z (fun _ => z) f (fun _ => z) (fun _ => z) (fun _ => z) (fun _ => z)
/-- a tuple, or else -/
def tF {β : Type} (d : PyData) (f : List PyData → β) (z : β) : β := PyData.casesOn (motive_1 := fun _ => β) d z (fun _ => z) (fun _ => z) (fun _ => z) (fun _ => z) f (fun _ => z)
/-- a list, or else -/
def lF {β : Type} (d : PyData) (f : List PyData → β) (z : β) : β := PyData.casesOn (motive_1 := fun _ => β) d z (fun _ => z) (fun _ => z) (fun _ => z) f (fun _ => z) (fun _ => z)
def oF {α β : Type} (o : Option α) (f : α → β) (z : β) : β := Option.rec (motive := fun _ => β) z f o
def cF {β : Type} (b : Bool) (x y : β) : β := Bool.rec (motive := fun _ => β) y x b
theorem cF_eq {β : Type} (b : Bool) (x y : β) : cF b x y = if b then x else y := by cases b <;> rfl
/-! numbers -/
def ltF (i j : Int) : Bool := Int.rec (motive := fun _ => Bool) (fun a => Int.rec (motive := fun _ => Bool) (fun b => Nat.blt a b) (fun _ => false) j) (fun a => Int.rec (motive := fun _ => Bool) (fun _ => true) (fun b => Nat.blt b a) j) i
def leF (i j : Int) : Bool := Int.rec (motive := fun _ => Bool) (fun a => Int.rec (motive := fun _ => Bool) (fun b => Nat.ble a b) (fun _ => false) j) (fun a => Int.rec (motive := fun _ => Bool) (fun _ => true) (fun b => Nat.ble b a) j) i
def eqI (i j : Int) : Bool := Int.rec (motive := fun _ => Bool) (fun a => Int.rec (motive := fun _ => Bool) (fun b => Nat.beq a b) (fun _ => false) j) (fun a => Int.rec (motive := fun _ => Bool) (fun _ => false) (fun b => Nat.beq a b) j) i
theorem ltF_eq (i j : Int) : ltF i j = decide (i < j) := by
  cases i <;> cases j <;> simp only [ltF] <;> rw [Bool.eq_iff_iff] <;> simp [Nat.blt_eq] <;> omega
theorem leF_eq (i j : Int) : leF i j = decide (i ≤ j) := by
  cases i <;> cases j <;> simp only [leF] <;> rw [Bool.eq_iff_iff] <;> simp [Nat.ble_eq] <;> omega
theorem eqI_eq (i j : Int) : eqI i j = (i == j) := by
  cases i <;> cases j <;> simp only [eqI] <;> rw [Bool.eq_iff_iff] <;> simp [Nat.beq_eq] <;> omega
def posF (j : Int) : Bool := Int.rec (motive := fun _ => Bool) (fun n => Nat.ble 1 n) (fun _ => false) j
theorem posF_eq (j : Int) : posF j = decide (0 < j) := by
  cases j <;> simp only [posF] <;> rw [Bool.eq_iff_iff] <;> simp [Nat.ble_eq] <;> omega
def divF (i j : Int) : Int := Int.rec (motive := fun _ => Int) (fun a => Int.rec (motive := fun _ => Int) (fun b => Int.ofNat (Nat.div a b)) (fun _ => Int.ediv i j) j) (fun _ => Int.ediv i j) i
theorem divF_eq (i j : Int) : divF i j = i / j := by cases i <;> cases j <;> rfl
def modF (i j : Int) : Int := Int.rec (motive := fun _ => Int) (fun a => Int.rec (motive := fun _ => Int) (fun b => Int.ofNat (Nat.mod a b)) (fun _ => Int.emod i j) j) (fun _ => Int.emod i j) i
theorem modF_eq (i j : Int) : modF i j = i % j := by cases i <;> cases j <;> rfl
/-! rows -/
def lenN (xs : List PyData) : Nat := List.rec (motive := fun _ => Nat) 0 (fun _ _ r => Nat.succ r) xs
def catN (xs ys : List PyData) : List PyData := List.rec (motive := fun _ => List PyData) ys (fun x _ r => x :: r) xs
theorem lenN_eq : ∀ xs : List PyData, lenN xs = xs.length
  | [] => rfl
  | x :: xs => by rw [List.length_cons, ← lenN_eq xs]; rfl
theorem catN_eq (ys : List PyData) : ∀ xs : List PyData, catN xs ys = xs ++ ys
  | [] => rfl
  | x :: xs => by rw [List.cons_append, ← catN_eq ys xs]; rfl
def pureF (d : PyData) : Bool := PyData.rec (motive_1 := fun _ => Bool) (motive_2 := fun _ => Bool) (motive_3 := fun _ => Bool) (motive_4 := fun _ => Bool) true (fun _ => true) (fun _ => true) (fun _ => true) (fun _ _ => false) (fun _ ih => ih) (fun _ _ => false) true (fun _ _ a b => cF a b false) true (fun _ _ _ _ => true) (fun _ _ _ _ => true) d
def puresF (xs : List PyData) : Bool := PyData.rec_1 (motive_1 := fun _ => Bool) (motive_2 := fun _ => Bool) (motive_3 := fun _ => Bool) (motive_4 := fun _ => Bool) true (fun _ => true) (fun _ => true) (fun _ => true) (fun _ _ => false) (fun _ ih => ih) (fun _ _ => false) true (fun _ _ a b => cF a b false) true (fun _ _ _ _ => true) (fun _ _ _ _ => true) xs
mutual
theorem pureF_eq : ∀ d : PyData, pureF d = pure? d
  | .none => by simp only [pure?]; rfl
  | .bool _ => by simp only [pure?]; rfl
  | .int _ => by simp only [pure?]; rfl
  | .str _ => by simp only [pure?]; rfl
  | .list _ => by simp only [pure?]; rfl
  | .dict _ => by simp only [pure?]; rfl
  | .tuple xs => by
    simp only [pure?]
    exact puresF_eq xs
theorem puresF_eq : ∀ xs : List PyData, puresF xs = pures xs
  | [] => by simp only [pures]; rfl
  | x :: xs => by
    simp only [pures]
    rw [← pureF_eq x, ← puresF_eq xs]
    show cF (pureF x) (puresF xs) false = _
    rw [cF_eq]
    cases pureF x <;> rfl
end
/-! operators -/
def binF (o : Bop) (x y : PyData) : R PyData := Bop.rec (motive := fun _ => R PyData)
  (iF x (fun i => iF y (fun j => .ok (.int (Int.add i j))) .bad) (tF x (fun xs => tF y (fun ys => cF (Nat.ble (Nat.add (lenN xs) (lenN ys)) big) (.ok (.tuple (catN xs ys))) .bad) (binD .add x y)) (binD .add x y)))
  (iF x (fun i => iF y (fun j => .ok (.int (Int.sub i j))) .bad) .bad)
  (iF x (fun i => iF y (fun j => cF (mulOk i j) (.ok (.int (Int.mul i j))) .bad) .bad) (binD .mul x y))
  (iF x (fun i => iF y (fun j => cF (posF j) (cF (Nat.blt (Nat.log2 (Int.natAbs j)) 9000) (.ok (.int (divF i j))) .bad) .bad) .bad) .bad)
  (iF x (fun i => iF y (fun j => cF (posF j) (.ok (.int (modF i j))) .bad) .bad) (binD .mod x y))
  (binD .pow x y) (binD .shl x y) (binD .shr x y) (binD .band x y) (binD .bxor x y) o
theorem binF_eq (o : Bop) (x y : PyData) : binF o x y = binD o x y := by
  cases o <;> try rfl
  · cases x <;> cases y <;> try rfl
    rename_i xs ys
    show cF (Nat.ble (Nat.add (lenN xs) (lenN ys)) big) (R.ok (PyData.tuple (catN xs ys))) R.bad = if xs.length + ys.length ≤ big then _ else _
    rw [cF_eq, lenN_eq, lenN_eq, catN_eq, show Nat.add xs.length ys.length = xs.length + ys.length from rfl]
    by_cases h : xs.length + ys.length ≤ big
    · rw [if_pos h, if_pos (Nat.ble_eq.mpr h)]
    · rw [if_neg h, if_neg (fun z => h (Nat.ble_eq.mp z))]
  · cases x <;> cases y <;> rfl
  · cases x <;> cases y <;> try rfl
    rename_i i j
    show cF (mulOk i j) _ _ = if mulOk i j then _ else _
    rw [cF_eq]; rfl
  · cases x <;> cases y <;> try rfl
    rename_i i j
    show cF (posF j) (cF (Nat.blt (Nat.log2 (Int.natAbs j)) 9000) (R.ok (PyData.int (divF i j))) R.bad) R.bad = if 0 < j ∧ j.natAbs.log2 < 9000 then _ else _
    rw [cF_eq, cF_eq, posF_eq, divF_eq]
    by_cases h1 : 0 < j
    · by_cases h2 : j.natAbs.log2 < 9000
      · simp [h1, h2, Nat.blt_eq]
      · have : Nat.blt j.natAbs.log2 9000 = false := by
          rw [Bool.eq_false_iff, ne_eq, Nat.blt_eq]; exact h2
        simp [h1, h2, this]
    · simp [h1]
  · cases x <;> cases y <;> try rfl
    rename_i i j
    show cF (posF j) (R.ok (PyData.int (modF i j))) R.bad = if 0 < j then _ else _
    rw [cF_eq, posF_eq, modF_eq]
    simp
/-! equality of plain data -/
def plF : Nat → PyData → Bool := Nat.rec (motive := fun _ => PyData → Bool) (fun _ => false) fun _ ih d => PyData.casesOn (motive_1 := fun _ => Bool) d true (fun _ => true) (fun _ => true) (fun _ => false)
  (fun xs => List.rec (motive := fun _ => Bool) true (fun x _ r => cF (ih x) r false) xs) (fun xs => List.rec (motive := fun _ => Bool) true (fun x _ r => cF (ih x) r false) xs) (fun _ => false)
/-- side by side; none: not of these -/
def eqF : Nat → PyData → PyData → Option Bool := Nat.rec (motive := fun _ => PyData → PyData → Option Bool) (fun _ _ => none) fun n ih a b =>
  PyData.casesOn (motive_1 := fun _ => Option Bool) a
    (cF (plF n b) (PyData.casesOn (motive_1 := fun _ => Option Bool) b (some true) (fun _ => some false) (fun _ => some false) (fun _ => none) (fun _ => some false) (fun _ => some false) (fun _ => none)) none)
    (fun x => PyData.casesOn (motive_1 := fun _ => Option Bool) b (some false) (fun y => some (x == y)) (fun _ => none) (fun _ => none) (fun _ => none) (fun _ => none) (fun _ => none))
    (fun i => iF b (fun j => some (eqI i j)) none)
    (fun _ => none)
    (fun _ => none)
    (fun xs => tF b (fun ys => List.rec (motive := fun _ => List PyData → Option Bool) (fun ys => List.rec (motive := fun _ => Option Bool) (some true) (fun y t _ => cF (plF (n + 1) (.tuple (y :: t))) (some false) none) ys)
      (fun x xs ihx ys => List.rec (motive := fun _ => Option Bool) (cF (plF (n + 1) (.tuple (x :: xs))) (some false) none) (fun y t _ => oF (ih x y) (fun r => oF (ihx t) (fun q => some (cF r q false)) none) none) ys) xs ys) none)
    (fun _ => none)

/-! the rest over data -/
def eqDF (a b : PyData) : R Bool := oF (eqF 60 a b) R.ok (eqD a b)
def cmpF (o : Cop) (x y : PyData) : R Bool := Cop.rec (motive := fun _ => R Bool)
  (iF x (fun i => iF y (fun j => .ok (ltF i j)) .bad) .bad) (iF x (fun i => iF y (fun j => .ok (leF i j)) .bad) .bad) (iF x (fun i => iF y (fun j => .ok (ltF j i)) .bad) .bad) (iF x (fun i => iF y (fun j => .ok (leF j i)) .bad) .bad)
  (eqDF x y) (bF (eqDF x y) fun k => .ok (cF k false true)) (cmpD .is_ x y) (cmpD .isnot x y) (cmpD .in_ x y) (cmpD .notin x y) o
def truthF (d : PyData) : R Bool := PyData.casesOn (motive_1 := fun _ => R Bool) d (.ok false) (fun b => .ok b) (fun i => .ok (cF (eqI i 0) false true)) (fun x => truth (.str x)) (fun xs => .ok (List.rec (motive := fun _ => Bool) false (fun _ _ _ => true) xs)) (fun xs => .ok (List.rec (motive := fun _ => Bool) false (fun _ _ _ => true) xs)) (fun _ => .bad)
def getF (k : Nat) : List PyData → R PyData := Nat.rec (motive := fun _ => List PyData → R PyData) (fun xs => List.rec (motive := fun _ => R PyData) .bad (fun x _ _ => .ok x) xs) (fun _ ih xs => List.rec (motive := fun _ => R PyData) .bad (fun _ t _ => ih t) xs) k
def atF (xs : List PyData) (i : Int) : R PyData := Int.rec (motive := fun _ => R PyData) (fun k => getF k xs) (fun k => cF (Nat.blt k (lenN xs)) (getF (Nat.sub (lenN xs) (Nat.succ k)) xs) .bad) i
def subF (x y : PyData) : R PyData := tF x (fun xs => iF y (fun k => atF xs k) .bad) (lF x (fun xs => iF y (fun k => atF xs k) .bad) (subD x y))
def consF (x d : PyData) : R PyData := tF d (fun xs => .ok (.tuple (x :: xs))) .bad
def unTF (f : List PyData → R PyData) (d : PyData) : R PyData := tF d f .bad
def rngF (n : Nat) : Int → List PyData := Nat.rec (motive := fun _ => Int → List PyData) (fun _ => []) (fun _ ih lo => .int lo :: ih (Int.add lo 1)) n
def r1F (d : PyData) : R PyData := iF d (fun n => cF (bnd n) (.ok (.list (rngF n.toNat 0))) .bad) .bad
def r2F (x y : PyData) : R PyData := iF x (fun m => iF y (fun n => cF (bnd m) (cF (bnd n) (.ok (.list (rngF (Int.sub n m).toNat m))) .bad) .bad) .bad) .bad
def oneF (ds : List PyData) (f : PyData → R PyData) (z : R PyData) : R PyData := List.rec (motive := fun _ => R PyData) z (fun d t _ => List.rec (motive := fun _ => R PyData) (f d) (fun _ _ _ => z) t) ds
def bltF (b : Blt) (ds : List PyData) : R PyData := Blt.rec (motive := fun _ => R PyData)
  (oneF ds (fun d => tF d (fun xs => .ok (.int (Int.ofNat (lenN xs)))) (lF d (fun xs => .ok (.int (Int.ofNat (lenN xs)))) (bltD .len ds))) (bltD .len ds))
  (oneF ds (fun d => iF d (fun i => .ok (.int (Int.ofNat (Int.natAbs i)))) (bltD .abs ds)) (bltD .abs ds))
  (oneF ds (fun d => iF d (fun i => .ok (.int i)) (bltD .int ds)) (bltD .int ds))
  (bltD .str ds)
  (oneF ds (fun d => lF d (fun xs => .ok (.tuple xs)) (bltD .tuple ds)) (bltD .tuple ds))
  (oneF ds (fun d => lF d (fun xs => .ok (.list xs)) (bltD .list ds)) (bltD .list ds))
  (bltD .min2 ds) (bltD .max2 ds) (bltD .sum ds) (bltD .min1 ds) (bltD .max1 ds) (bltD .sorted ds) b
/-! frames -/
def slF (s : Sl) : R PyData := Sl.rec (motive := fun _ => R PyData) .bad (fun d => .ok d) (fun ds => .ok (.list ds)) (fun dss => .ok (.list (dss.map PyData.list))) s
/-- .. the lists of one's own hidden -/
def slH (s : Sl) : R PyData := Sl.rec (motive := fun _ => R PyData) .bad (fun d => .ok d) (fun _ => .bad) (fun _ => .bad) s
def lookF {β : Type} (f : Sl → R β) (i : Nat) : Env → R β := Nat.rec (motive := fun _ => Env → R β) (fun ρ => List.rec (motive := fun _ => R β) .bad (fun s _ _ => f s) ρ) (fun _ ih ρ => List.rec (motive := fun _ => R β) .bad (fun _ t _ => ih t) ρ) i
def setSF (s : Sl) (i : Nat) : Env → Env := Nat.rec (motive := fun _ => Env → Env) (fun ρ => List.rec (motive := fun _ => Env) [] (fun _ t _ => s :: t) ρ) (fun _ ih ρ => List.rec (motive := fun _ => Env) [] (fun x t _ => x :: ih t) ρ) i
def bindManyF (is : List Nat) : List PyData → Env → Option Env := List.rec (motive := fun _ => List PyData → Env → Option Env) (fun ds ρ => List.rec (motive := fun _ => Option Env) (some ρ) (fun _ _ _ => none) ds)
  (fun i _ ih ds ρ => List.rec (motive := fun _ => Option Env) none (fun d t _ => ih t (setSF (.sh d) i ρ)) ds) is
def bindTF (t : Tg) (d : PyData) (ρ : Env) : Option Env := Tg.rec (motive := fun _ => Option Env) (fun i => some (setSF (.sh d) i ρ)) (fun is => tF d (fun ds => bindManyF is ds ρ) none) t
def wipeF (ρ : Env) (vs : List Nat) : Env := List.rec (motive := fun _ => Env) ρ (fun v _ r => setSF .un v r) vs
def lcGoF (tg : Tg) (fc : Env → R PyData) (fe : Env → R PyData) (ρ : Env) (xs : List PyData) : R (List PyData) := List.rec (motive := fun _ => R (List PyData)) (.ok []) (fun d _ ih => oF (bindTF tg d ρ) (fun ρ' =>
  R.rec (motive := fun _ => R (List PyData)) (fun c => R.rec (motive := fun _ => R (List PyData)) (fun k => cF k (R.rec (motive := fun _ => R (List PyData)) (fun y => R.rec (motive := fun _ => R (List PyData)) (fun ys => .ok (y :: ys)) (fun _ => .bad) .bad ih) (fun _ => .bad) .bad (fe ρ')) ih) (fun _ => .bad) .bad (truthF c)) (fun _ => .bad) .bad (fc ρ')) .bad) xs
def lcF (own : List Nat) (t : Tg) (fi fc fe : Env → R PyData) (ρ : Env) : R PyData := bF (fi ρ) fun x => lF x (fun xs => cF (Nat.ble (lenN xs) big) (R.rec (motive := fun _ => R PyData) (fun ys => .ok (.list ys)) (fun _ => .bad) .bad (lcGoF t fc fe (wipeF ρ own) xs)) .bad) .bad
def boolF (d : PyData) : Option Bool := PyData.casesOn (motive_1 := fun _ => Option Bool) d none (fun b => some b) (fun i => some (cF (eqI i 0) false true)) (fun _ => none) (fun _ => none) (fun _ => none) (fun _ => none)
def aaGoF (w : Bool) (tg : Tg) (fe : Env → R PyData) (ρ : Env) (xs : List PyData) : R Bool := List.rec (motive := fun _ => R Bool) (.ok w) (fun d _ ih => oF (bindTF tg d ρ) (fun ρ' =>
  R.rec (motive := fun _ => R Bool) (fun y => oF (boolF y) (fun b => cF w (cF b ih (.ok false)) (cF b (.ok true) ih)) .bad) (fun _ => .bad) .bad (fe ρ')) .bad) xs
def aaF (w : Bool) (own : List Nat) (t : Tg) (fi fe : Env → R PyData) (ρ : Env) : R PyData := bF (fi ρ) fun x => lF x (fun xs => R.rec (motive := fun _ => R PyData) (fun b => .ok (.bool b)) (fun _ => .bad) .bad (aaGoF w t fe (wipeF ρ own) xs)) .bad
def evF (sl : Sl → R PyData) (call : Nat → List PyData → R PyData) (e : IE) : Env → R PyData := IE.rec (motive := fun _ => Env → R PyData)
  (fun i ρ => lookF sl i ρ)
  (fun i _ => .ok (.int i))
  (fun b _ => .ok (.bool b))
  (fun _ => .ok .none)
  (fun x _ => .ok (.str x))
  (fun _ d _ => .ok d)
  (fun o _ _ a b ρ => bF (a ρ) fun x => bF (b ρ) fun y => binF o x y)
  (fun _ a ρ => bF (a ρ) negD)
  (fun o _ _ a b ρ => bF (a ρ) fun x => bF (b ρ) fun y => bF (cmpF o x y) fun k => .ok (.bool k))
  (fun o o' _ _ _ a b c ρ => bF (a ρ) fun x => bF (b ρ) fun y => bF (cmpF o x y) fun k => cF k (bF (c ρ) fun z => bF (cmpF o' y z) fun k' => .ok (.bool k')) (.ok (.bool false)))
  (fun _ a ρ => bF (a ρ) fun x => bF (truthF x) fun k => .ok (.bool (cF k false true)))
  (fun _ _ a b ρ => bF (a ρ) fun x => bF (truthF x) fun k => cF k (b ρ) (.ok x))
  (fun _ _ a b ρ => bF (a ρ) fun x => bF (truthF x) fun k => cF k (.ok x) (b ρ))
  (fun _ a ρ => a ρ)
  (fun _ _ _ c a b ρ => bF (c ρ) fun x => bF (truthF x) fun k => cF k (a ρ) (b ρ))
  (fun _ a ρ => a ρ)
  (fun _ a ρ => bF (a ρ) fun d => tF d (fun xs => .ok (.list xs)) .bad)
  (fun _ _ a i ρ => bF (a ρ) fun x => bF (i ρ) fun y => subF x y)
  (fun _ _ _ a lo hi ρ => bF (a ρ) fun x => bF (lo ρ) fun l => bF (partD l) fun l' => bF (hi ρ) fun h => bF (partD h) fun h' => sliceD x l' h')
  (fun _ a ρ => bF (a ρ) revD)
  (fun j _ es ρ => bF (es ρ) (unTF (call j)))
  (fun b _ es ρ => bF (es ρ) (unTF (bltF b)))
  (fun _ T a ρ => bF (a ρ) fun x => bF (isiD x T) fun k => .ok (.bool k))
  (fun own _ tg _ _ _ it cond elt ρ => lcF own tg it cond elt ρ)
  (fun _ => .ok (.tuple []))
  (fun _ _ h t ρ => bF (h ρ) fun x => bF (t ρ) (consF x))
  (fun _ => .ok .none)
  (fun _ a ρ => bF (a ρ) numD)
  (fun _ a ρ => bF (a ρ) fun x => lF x (fun xs => .ok (.list xs)) (tF x (fun xs => .ok (.list xs)) .bad))
  (fun _ a ρ => bF (a ρ) r1F)
  (fun _ _ a b ρ => bF (a ρ) fun x => bF (b ρ) (r2F x))
  (fun _ a ρ => bF (a ρ) fun x => bF (seqOf x) fun xs => .ok (.list (enumFrom 0 xs)))
  (fun _ _ a b ρ => bF (a ρ) fun x => bF (b ρ) (zipDD x))
  (fun _ a ρ => bF (a ρ) fun x => bF (seqOf x) fun xs => .ok (.list xs.reverse))
  (fun _ _ _ a b c ρ => bF (a ρ) fun x => bF (b ρ) fun y => bF (c ρ) (r3D x y))
  (fun w own _ tg _ _ it elt ρ => aaF w own tg it elt ρ) e
end
end DL
namespace DL
open PySem PySem.Spec PyProof.Rows L2
/-! ### they give the same -/
section
theorem plF_ok : ∀ (n : Nat) (d : PyData), plF n d = true → d.canLay0 = true ∧ d.depth ≤ n
  | 0, d, h => by cases h
  | n + 1, d, h => by
    have key : ∀ xs : List PyData, List.rec (motive := fun _ => Bool) true (fun x _ r => cF (plF n x) r false) xs = true → PyData.canLayAll0 xs = true ∧ PyData.depthAll xs ≤ n := by
      intro xs
      induction xs with
      | nil => intro _; exact ⟨rfl, Nat.zero_le _⟩
      | cons x xs ih =>
        intro h
        have h : cF (plF n x) (List.rec (motive := fun _ => Bool) true (fun x _ r => cF (plF n x) r false) xs) false = true := h
        rw [cF_eq] at h
        split at h
        · rename_i h1
          obtain ⟨a1, a2⟩ := plF_ok n x h1
          obtain ⟨b1, b2⟩ := ih h
          exact ⟨by simp only [PyData.canLayAll0, a1, b1, Bool.and_self], by simp only [PyData.depthAll]; omega⟩
        · cases h
    cases d with
    | none => exact ⟨by simp only [PyData.canLay0], by simp only [PyData.depth]; omega⟩
    | bool b => exact ⟨by simp only [PyData.canLay0], by simp only [PyData.depth]; omega⟩
    | int b => exact ⟨by simp only [PyData.canLay0], by simp only [PyData.depth]; omega⟩
    | str b => cases h
    | list xs => obtain ⟨h1, h2⟩ := key xs h; exact ⟨by simp only [PyData.canLay0]; exact h1, by simp only [PyData.depth]; omega⟩
    | tuple xs => obtain ⟨h1, h2⟩ := key xs h; exact ⟨by simp only [PyData.canLay0]; exact h1, by simp only [PyData.depth]; omega⟩
    | dict xs => cases h
theorem oF_some {α β : Type} {o : Option α} {f : α → Option β} {b : β} (h : oF o f none = some b) : ∃ a, o = some a ∧ f a = some b := by
  cases o with
  | none => cases h
  | some a => exact ⟨a, rfl, h⟩
theorem cF_some {β : Type} {c : Bool} {a : Option β} {b : β} (h : cF c a none = some b) : c = true ∧ a = some b := by
  cases c with
  | true => exact ⟨rfl, h⟩
  | false => cases h
theorem eqF_ok : ∀ (n : Nat) (a b : PyData) (r : Bool), eqF n a b = some r → a.canLay0 = true ∧ b.canLay0 = true ∧ a.depth ≤ n ∧ b.depth ≤ n ∧ PyData.eqv a b = r
  | 0, a, b, r, h => by cases h
  | n + 1, a, b, r, h => by
    cases a with
    | none =>
      obtain ⟨h1, h2⟩ := cF_some h
      obtain ⟨c1, c2⟩ := plF_ok n b h1
      refine ⟨by simp only [PyData.canLay0], c1, by simp only [PyData.depth]; omega, by omega, ?_⟩
      cases b <;> first | (cases h2; done) | (cases h2; simp only [PyData.eqv])
    | bool x =>
      cases b <;> first | (cases h; done) | skip
      · cases h; exact ⟨by simp only [PyData.canLay0], by simp only [PyData.canLay0], by simp only [PyData.depth]; omega, by simp only [PyData.depth]; omega, by simp only [PyData.eqv]⟩
      · have h := Option.some.inj h
        subst h
        exact ⟨by simp only [PyData.canLay0], by simp only [PyData.canLay0], by simp only [PyData.depth]; omega, by simp only [PyData.depth]; omega, by simp only [PyData.eqv]⟩
    | int i =>
      cases b <;> first | (cases h; done) | skip
      have h := Option.some.inj h
      subst h
      exact ⟨by simp only [PyData.canLay0], by simp only [PyData.canLay0], by simp only [PyData.depth]; omega, by simp only [PyData.depth]; omega, by simp only [PyData.eqv]; exact (eqI_eq _ _).symm⟩
    | str x => cases h
    | list xs => cases h
    | dict xs => cases h
    | tuple xs =>
      cases b <;> first | (cases h; done) | skip
      rename_i ys
      have key : ∀ (xs ys : List PyData) (r : Bool), List.rec (motive := fun _ => List PyData → Option Bool) (fun ys => List.rec (motive := fun _ => Option Bool) (some true) (fun y t _ => cF (plF (n + 1) (.tuple (y :: t))) (some false) none) ys)
          (fun x xs ihx ys => List.rec (motive := fun _ => Option Bool) (cF (plF (n + 1) (.tuple (x :: xs))) (some false) none) (fun y t _ => oF (eqF n x y) (fun r => oF (ihx t) (fun q => some (cF r q false)) none) none) ys) xs ys = some r →
          PyData.canLayAll0 xs = true ∧ PyData.canLayAll0 ys = true ∧ PyData.depthAll xs ≤ n ∧ PyData.depthAll ys ≤ n ∧ PyData.eqvAll xs ys = r := by
        intro xs
        induction xs with
        | nil =>
          intro ys r h
          cases ys with
          | nil => cases h; exact ⟨rfl, rfl, Nat.zero_le _, Nat.zero_le _, by simp only [PyData.eqvAll]⟩
          | cons y t =>
            obtain ⟨h1, h2⟩ := cF_some h
            cases h2
            obtain ⟨c1, c2⟩ := plF_ok _ _ h1
            simp only [PyData.canLay0] at c1
            simp only [PyData.depth] at c2
            exact ⟨rfl, c1, Nat.zero_le _, by omega, by simp only [PyData.eqvAll]⟩
        | cons x xs ih =>
          intro ys r h
          cases ys with
          | nil =>
            obtain ⟨h1, h2⟩ := cF_some h
            cases h2
            obtain ⟨c1, c2⟩ := plF_ok _ _ h1
            simp only [PyData.canLay0] at c1
            simp only [PyData.depth] at c2
            exact ⟨c1, rfl, by omega, Nat.zero_le _, by simp only [PyData.eqvAll]⟩
          | cons y t =>
            obtain ⟨r1, h1, h2⟩ := oF_some h
            obtain ⟨r2, h3, h4⟩ := oF_some h2
            cases h4
            obtain ⟨a1, a2, a3, a4, a5⟩ := eqF_ok n x y r1 h1
            obtain ⟨b1, b2, b3, b4, b5⟩ := ih t r2 h3
            refine ⟨by simp only [PyData.canLayAll0, a1, b1, Bool.and_self], by simp only [PyData.canLayAll0, a2, b2, Bool.and_self], by simp only [PyData.depthAll]; omega, by simp only [PyData.depthAll]; omega, ?_⟩
            simp only [PyData.eqvAll, a5, b5]
            cases r1 <;> rfl
      obtain ⟨c1, c2, c3, c4, c5⟩ := key xs ys r h
      exact ⟨by simp only [PyData.canLay0]; exact c1, by simp only [PyData.canLay0]; exact c2, by simp only [PyData.depth]; omega, by simp only [PyData.depth]; omega, by simp only [PyData.eqv]; exact c5⟩
theorem eqDF_eq (a b : PyData) : eqDF a b = eqD a b := by
  unfold eqDF
  cases h : eqF 60 a b with
  | none => rfl
  | some r =>
    obtain ⟨h1, h2, h3, h4, h5⟩ := eqF_ok 60 a b r h
    show R.ok r = _
    unfold eqD
    split
    · simp only [PyData.eqv] at h5; rw [h5]
    · simp only [PyData.eqv] at h5; rw [h5]
    · simp only [PyData.eqv] at h5; rw [h5]
    · have s1 : SeqAt.shaped a = true := by unfold SeqAt.shaped; rw [h1, Bool.true_and]; exact decide_eq_true (by omega)
      have s2 : SeqAt.shaped b = true := by unfold SeqAt.shaped; rw [h2, Bool.true_and]; exact decide_eq_true (by omega)
      rw [s1, s2, h5]
      rfl
theorem cmpF_eq (o : Cop) (x y : PyData) : cmpF o x y = cmpD o x y := by
  cases o
  · cases x <;> cases y <;> first | rfl | exact congrArg R.ok (ltF_eq _ _)
  · cases x <;> cases y <;> first | rfl | exact congrArg R.ok (leF_eq _ _)
  · cases x <;> cases y <;> first | rfl | exact congrArg R.ok (ltF_eq _ _)
  · cases x <;> cases y <;> first | rfl | exact congrArg R.ok (leF_eq _ _)
  · show eqDF x y = _
    rw [eqDF_eq]
    cases x <;> cases y <;> rfl
  · show bF (eqDF x y) _ = _
    rw [eqDF_eq, bF_eq]
    have e : cmpD .ne x y = (eqD x y).bind fun k => .ok (!k) := by cases x <;> cases y <;> rfl
    rw [e]
    congr 1
    funext k
    cases k <;> rfl
  · rfl
  · rfl
  · rfl
  · rfl
theorem truthF_eq (d : PyData) : truthF d = truth d := by
  cases d with
  | int i =>
    show R.ok (cF (eqI i 0) false true) = R.ok (i != 0)
    rw [eqI_eq, cF_eq]
    simp only [bne]
    cases (i == 0) <;> rfl
  | list xs => cases xs <;> rfl
  | tuple xs => cases xs <;> rfl
  | _ => rfl
theorem getF_eq : ∀ (k : Nat) (xs : List PyData), getF k xs = (match xs[k]? with
    | some d => R.ok d
    | none => .bad)
  | 0, [] => rfl
  | 0, x :: xs => rfl
  | k + 1, [] => rfl
  | k + 1, x :: xs => by rw [List.getElem?_cons_succ]; exact getF_eq k xs
theorem atF_eq (xs : List PyData) (i : Int) : atF xs i = atD xs i := by
  cases i with
  | ofNat k => exact getF_eq k xs
  | negSucc k =>
    show cF (Nat.blt k (lenN xs)) (getF (Nat.sub (lenN xs) (Nat.succ k)) xs) .bad = atD xs (.negSucc k)
    unfold atD
    dsimp only
    rw [cF_eq, lenN_eq, getF_eq]
    by_cases h : k < xs.length
    · rw [if_pos h, if_pos (Nat.blt_eq.mpr h)]; rfl
    · rw [if_neg h, if_neg (fun z => h (Nat.blt_eq.mp z))]
theorem subF_eq (x y : PyData) : subF x y = subD x y := by
  cases x <;> cases y <;> first | rfl | exact atF_eq _ _
theorem consF_eq (x : PyData) : consF x = consD x := by funext d; cases d <;> rfl
theorem unTF_eq (f : List PyData → R PyData) : unTF f = unT f := by funext d; cases d <;> rfl
theorem rngF_eq : ∀ (n : Nat) (lo : Int), rngF n lo = rng lo n
  | 0, lo => rfl
  | n + 1, lo => by
    show .int lo :: rngF n (Int.add lo 1) = rng lo (n + 1)
    rw [rngF_eq n]
    unfold rng
    rw [List.range_succ_eq_map, List.map_cons, List.map_map]
    congr 1
    · simp
    · apply List.map_congr_left
      intro k _
      show PyData.int (lo + 1 + (k : Nat)) = .int (lo + ((k + 1 : Nat) : Int))
      congr 1
      omega
theorem r1F_eq : r1F = r1D := by
  funext d
  cases d <;> try rfl
  rename_i n
  show cF (bnd n) (R.ok (PyData.list (rngF n.toNat 0))) R.bad = if bnd n then _ else _
  rw [cF_eq, rngF_eq]
theorem r2F_eq (x : PyData) : r2F x = r2D x := by
  funext y
  cases x <;> cases y <;> try rfl
  rename_i m n
  show cF (bnd m) (cF (bnd n) (R.ok (PyData.list (rngF (Int.sub n m).toNat m))) R.bad) R.bad = if bnd m && bnd n then _ else _
  rw [cF_eq, cF_eq, rngF_eq]
  cases bnd m <;> cases bnd n <;> rfl
theorem oneF_eq {ds : List PyData} {f : PyData → R PyData} {z : R PyData} (h : ∀ d, ds = [d] → f d = z) : oneF ds f z = z := by
  cases ds with
  | nil => rfl
  | cons d t => cases t with
    | nil => exact h d rfl
    | cons _ _ => rfl
theorem bltF_eq (b : Blt) : bltF b = bltD b := by
  funext ds
  cases b <;> try rfl
  · exact oneF_eq fun d e => by
      subst e
      cases d <;> first | rfl | (show R.ok (PyData.int (Int.ofNat (lenN _))) = _; rw [lenN_eq]; rfl)
  · refine oneF_eq fun d e => ?_
    subst e
    cases d <;> try rfl
    rename_i i
    show R.ok (PyData.int (Int.ofNat (Int.natAbs i))) = R.ok (PyData.int (if i < 0 then -i else i))
    congr 2
    show ((i.natAbs : Nat) : Int) = _
    split <;> omega
  · exact oneF_eq fun d e => by subst e; cases d <;> rfl
  · exact oneF_eq fun d e => by subst e; cases d <;> rfl
  · exact oneF_eq fun d e => by subst e; cases d <;> rfl

/-! frames -/
theorem setSF_eq (s : Sl) : ∀ (i : Nat) (ρ : Env), setSF s i ρ = ρ.set i s
  | 0, [] => rfl
  | 0, x :: ρ => rfl
  | i + 1, [] => rfl
  | i + 1, x :: ρ => by rw [List.set_cons_succ, ← setSF_eq s i ρ]; rfl
theorem bindManyF_eq : ∀ (is : List Nat) (ds : List PyData) (ρ : Env), bindManyF is ds ρ = bindMany is ds ρ
  | [], [], ρ => rfl
  | [], _ :: _, ρ => rfl
  | _ :: _, [], ρ => rfl
  | i :: is, d :: ds, ρ => by
    show bindManyF is ds (setSF (.sh d) i ρ) = bindMany is ds (ρ.set i (.sh d))
    rw [setSF_eq, bindManyF_eq is ds]
theorem bindMany_len : ∀ {is : List Nat} {ds : List PyData} {ρ : Env}, bindMany is ds ρ = if ds.length = is.length then some (setMany is ds ρ) else none
  | [], [], ρ => by simp [bindMany, setMany]
  | [], _ :: _, ρ => by simp [bindMany]
  | _ :: _, [], ρ => by simp [bindMany]
  | i :: is, d :: ds, ρ => by
    simp only [bindMany, setMany, List.length_cons, Nat.add_right_cancel_iff]
    exact bindMany_len
theorem bindTF_eq (t : Tg) (d : PyData) (ρ : Env) : bindTF t d ρ = bindT t d ρ := by
  cases t with
  | one i => show some (setSF (.sh d) i ρ) = some _; rw [setSF_eq]
  | many is => cases d <;> first | rfl | exact bindManyF_eq _ _ _
theorem wipeF_eq (ρ : Env) : ∀ vs : List Nat, wipeF ρ vs = wipeE ρ vs
  | [] => rfl
  | v :: vs => by
    show setSF .un v (wipeF ρ vs) = (wipeE ρ vs).set v .un
    rw [setSF_eq, wipeF_eq ρ vs]
theorem lookF_eq {β : Type} (f : Sl → R β) : ∀ (i : Nat) (ρ : Env), lookF f i ρ = (match ρ[i]? with
    | some s => f s
    | none => .bad)
  | 0, [] => rfl
  | 0, x :: ρ => rfl
  | i + 1, [] => rfl
  | i + 1, x :: ρ => by rw [List.getElem?_cons_succ]; exact lookF_eq f i ρ
theorem oF_eq {α β : Type} (o : Option α) (f : α → β) (z : β) : oF o f z = (match o with
    | some a => f a
    | none => z) := by cases o <;> rfl
/-- a frame looked at by sl is read like the frame h ρ -/
structure Lk (sl : Sl → R PyData) (h : Env → Env) : Prop where
  var : ∀ i ρ, lookF sl i ρ = (match (h ρ)[i]? with
    | some s => (match s.val with
      | some d => .ok d
      | none => .bad)
    | none => .bad)
  set : ∀ i d ρ, h (ρ.set i (.sh d)) = (h ρ).set i (.sh d)
  un : ∀ i ρ, h (ρ.set i .un) = (h ρ).set i .un
theorem lk_F : Lk slF id where
  var := fun i ρ => by
    rw [lookF_eq]
    show _ = (match ρ[i]? with
      | some s => (match s.val with
        | some d => R.ok d
        | none => .bad)
      | none => .bad)
    cases ρ[i]? with
    | none => rfl
    | some s => cases s <;> rfl
  set := fun _ _ _ => rfl
  un := fun _ _ => rfl
def hs (s : Sl) : Sl := match s with
  | .o1 _ => .un
  | .o2 _ => .un
  | s => s
theorem hide_map : ∀ (n : Nat) (ρ : Env), hideAt [] n ρ = ρ.map hs
  | n, [] => rfl
  | n, s :: r => by
    simp only [hideAt, List.map_cons, hide_map (n + 1) r]
    congr 1
    cases s <;> rfl
theorem lk_H : Lk slH (hideAt [] 0) where
  var := fun i ρ => by
    rw [lookF_eq, hide_map, List.getElem?_map]
    cases ρ[i]? with
    | none => rfl
    | some s => cases s <;> rfl
  set := fun i d ρ => by rw [hide_map, hide_map, List.map_set]; rfl
  un := fun i ρ => by rw [hide_map, hide_map, List.map_set]; rfl
section
variable {sl : Sl → R PyData} {h : Env → Env} (L : Lk sl h)
include L
theorem lk_many : ∀ (is : List Nat) (ds : List PyData) (ρ : Env), bindMany is ds (h ρ) = (bindMany is ds ρ).map h
  | [], [], ρ => rfl
  | [], _ :: _, ρ => rfl
  | _ :: _, [], ρ => rfl
  | i :: is, d :: ds, ρ => by
    show bindMany is ds ((h ρ).set i (.sh d)) = (bindMany is ds (ρ.set i (.sh d))).map h
    rw [← L.set, lk_many is ds]
theorem lk_bind (t : Tg) (d : PyData) (ρ : Env) : bindT t d (h ρ) = (bindT t d ρ).map h := by
  cases t with
  | one i => show some ((h ρ).set i (.sh d)) = some (h (ρ.set i (.sh d))); rw [L.set]
  | many is => cases d <;> first | rfl | exact lk_many L _ _ _
theorem lk_wipe (ρ : Env) : ∀ vs : List Nat, wipeE (h ρ) vs = h (wipeE ρ vs)
  | [] => rfl
  | v :: vs => by
    show (wipeE (h ρ) vs).set v .un = h ((wipeE ρ vs).set v .un)
    rw [lk_wipe ρ vs, L.un]
theorem lcGoF_eq {t : Tg} {fc fe gc ge : Env → R PyData} (hc : ∀ ρ, fc ρ = gc (h ρ)) (he : ∀ ρ, fe ρ = ge (h ρ)) (ρ : Env) : ∀ xs : List PyData, lcGoF t fc fe ρ xs = lcGo t gc ge (h ρ) xs
  | [] => rfl
  | d :: ds => by
    have ih := lcGoF_eq (t := t) hc he ρ ds
    show oF (bindTF t d ρ) (fun ρ' => R.rec (motive := fun _ => R (List PyData)) (fun c => R.rec (motive := fun _ => R (List PyData)) (fun k => cF k (R.rec (motive := fun _ => R (List PyData)) (fun y => R.rec (motive := fun _ => R (List PyData)) (fun ys => .ok (y :: ys)) (fun _ => .bad) .bad (lcGoF t fc fe ρ ds)) (fun _ => .bad) .bad (fe ρ')) (lcGoF t fc fe ρ ds)) (fun _ => .bad) .bad (truthF c)) (fun _ => .bad) .bad (fc ρ')) .bad = _
    rw [ih, bindTF_eq]
    rw [lcGo]
    rw [lk_bind L]
    cases bindT t d ρ with
    | none => rfl
    | some ρ' =>
      dsimp only [oF, Option.map_some]
      rw [hc, he]
      cases gc (h ρ') with
      | ok c =>
        dsimp only [R.bind]
        rw [truthF_eq]
        cases truth c with
        | ok k =>
          cases k with
          | true =>
            dsimp only [cF]
            cases ge (h ρ') with
            | ok y =>
              dsimp only
              cases lcGo t gc ge (h ρ) ds <;> rfl
            | _ => rfl
          | false => rfl
        | _ => rfl
      | _ => rfl
theorem aaGoF_eq {w : Bool} {t : Tg} {fe ge : Env → R PyData} (he : ∀ ρ, fe ρ = ge (h ρ)) (ρ : Env) : ∀ xs : List PyData, aaGoF w t fe ρ xs = aaGo w t ge (h ρ) xs
  | [] => rfl
  | d :: ds => by
    have ih := aaGoF_eq (w := w) (t := t) he ρ ds
    show oF (bindTF t d ρ) (fun ρ' => R.rec (motive := fun _ => R Bool) (fun y => oF (boolF y) (fun b => cF w (cF b (aaGoF w t fe ρ ds) (.ok false)) (cF b (.ok true) (aaGoF w t fe ρ ds))) .bad) (fun _ => .bad) .bad (fe ρ')) .bad = _
    rw [ih, bindTF_eq]
    rw [aaGo]
    rw [lk_bind L]
    cases bindT t d ρ with
    | none => rfl
    | some ρ' =>
      dsimp only [oF, Option.map_some]
      rw [he]
      cases ge (h ρ') with
      | ok y =>
        dsimp only
        have e : boolF y = boolOf y := by
          cases y <;> try rfl
          rename_i i
          show some (cF (eqI i 0) false true) = some (i != 0)
          rw [eqI_eq, cF_eq]
          simp only [bne]
          cases (i == 0) <;> rfl
        rw [e]
        cases boolOf y with
        | none => rfl
        | some b => cases w <;> cases b <;> rfl
      | _ => rfl
theorem evF_eq (call : Nat → List PyData → R PyData) (e : IE) : ∀ ρ, evF sl call e ρ = ev call e (h ρ) := by
  induction e with
  | var i => intro ρ; simp only [ev]; exact L.var i ρ
  | int i => intro ρ; simp only [ev]; rfl
  | bl i => intro ρ; simp only [ev]; rfl
  | non => intro ρ; simp only [ev]; rfl
  | str i => intro ρ; simp only [ev]; rfl
  | glob i d => intro ρ; simp only [ev]; rfl
  | enil => intro ρ; simp only [ev]; rfl
  | nopart => intro ρ; simp only [ev]; rfl
  | bin o a b iha ihb => intro ρ; simp only [ev, ← iha, ← ihb, ← binF_eq, ← bF_eq]; rfl
  | neg a iha => intro ρ; simp only [ev, ← iha, ← bF_eq]; rfl
  | cmp o a b iha ihb => intro ρ; simp only [ev, ← iha, ← ihb, ← cmpF_eq, ← bF_eq]; rfl
  | chain o o' a b c iha ihb ihc => intro ρ; simp only [ev, ← iha, ← ihb, ← ihc, ← cmpF_eq, ← bF_eq, ← cF_eq]; rfl
  | not a iha =>
    intro ρ
    simp only [ev, ← iha, ← truthF_eq, ← bF_eq]
    show bF _ _ = bF _ _
    congr 1
    funext x
    show bF _ _ = bF _ _
    congr 1
    funext k
    cases k <;> rfl
  | and a b iha ihb => intro ρ; simp only [ev, ← iha, ← ihb, ← truthF_eq, ← bF_eq, ← cF_eq]; rfl
  | or a b iha ihb => intro ρ; simp only [ev, ← iha, ← ihb, ← truthF_eq, ← bF_eq, ← cF_eq]; rfl
  | one a iha => intro ρ; simp only [ev, ← iha]; rfl
  | ite c a b ihc iha ihb => intro ρ; simp only [ev, ← ihc, ← iha, ← ihb, ← truthF_eq, ← bF_eq, ← cF_eq]; rfl
  | tup a iha => intro ρ; simp only [ev, ← iha]; rfl
  | lst a iha =>
    intro ρ
    simp only [ev, ← iha, ← bF_eq]
    show bF _ _ = bF _ _
    congr 1
    funext d
    cases d <;> rfl
  | sub a b iha ihb => intro ρ; simp only [ev, ← iha, ← ihb, ← subF_eq, ← bF_eq]; rfl
  | slice a b c iha ihb ihc => intro ρ; simp only [ev, ← iha, ← ihb, ← ihc, ← bF_eq]; rfl
  | rev a iha => intro ρ; simp only [ev, ← iha, ← bF_eq]; rfl
  | call j a iha => intro ρ; simp only [ev, ← iha, ← bF_eq, ← unTF_eq]; rfl
  | blt b a iha => intro ρ; simp only [ev, ← iha, ← bF_eq, ← unTF_eq, ← bltF_eq]; rfl
  | isi a T iha => intro ρ; simp only [ev, ← iha, ← bF_eq]; rfl
  | lc own own' t it c e ihi ihc ihe =>
    intro ρ
    simp only [ev]
    unfold lcD
    rw [← ihi, ← bF_eq]
    show bF _ _ = bF _ _
    congr 1
    funext x
    cases x <;> try rfl
    rename_i xs
    show cF (Nat.ble (lenN xs) big) (R.rec (motive := fun _ => R PyData) (fun ys => .ok (.list ys)) (fun _ => .bad) .bad (lcGoF t (evF sl call c) (evF sl call e) (wipeF ρ own) xs)) .bad = if xs.length ≤ big then _ else _
    rw [lenN_eq, cF_eq, wipeF_eq, lcGoF_eq L ihc ihe, lk_wipe L]
    by_cases hz : xs.length ≤ big
    · rw [if_pos (Nat.ble_eq.mpr hz), if_pos hz]
      cases lcGo t (ev call c) (ev call e) (h (wipeE ρ own)) xs <;> rfl
    · rw [if_neg (fun z => hz (Nat.ble_eq.mp z)), if_neg hz]
  | econs a b iha ihb => intro ρ; simp only [ev, ← iha, ← ihb, ← bF_eq, ← consF_eq]; rfl
  | part a iha => intro ρ; simp only [ev, ← iha, ← bF_eq]; rfl
  | iseq a iha =>
    intro ρ
    simp only [ev, ← iha, ← bF_eq]
    show bF _ _ = bF _ _
    congr 1
    funext d
    cases d <;> rfl
  | ir1 a iha => intro ρ; simp only [ev, ← iha, ← bF_eq, ← r1F_eq]; rfl
  | ir2 a b iha ihb => intro ρ; simp only [ev, ← iha, ← ihb, ← bF_eq, ← r2F_eq]; rfl
  | ienum a iha => intro ρ; simp only [ev, ← iha, ← bF_eq]; rfl
  | izip a b iha ihb => intro ρ; simp only [ev, ← iha, ← ihb, ← bF_eq]; rfl
  | irev a iha => intro ρ; simp only [ev, ← iha, ← bF_eq]; rfl
  | ir3 a b c iha ihb ihc => intro ρ; simp only [ev, ← iha, ← ihb, ← ihc, ← bF_eq]; rfl
  | gen w own own' t it e ihi ihe =>
    intro ρ
    simp only [ev]
    unfold aaD
    rw [← ihi, ← bF_eq]
    show bF _ _ = bF _ _
    congr 1
    funext x
    cases x <;> try rfl
    rename_i xs
    show R.rec (motive := fun _ => R PyData) (fun b => .ok (.bool b)) (fun _ => .bad) .bad (aaGoF w t (evF sl call e) (wipeF ρ own) xs) = _
    rw [wipeF_eq, aaGoF_eq L ihe, lk_wipe L]
    dsimp only
    cases aaGo w t (ev call e) (h (wipeE ρ own)) xs <;> rfl
end
end
end DL
namespace DL
open PySem PySem.Spec PyProof.Rows L2
noncomputable section
def lenF (xs : List PyData) : Nat := List.rec (motive := fun _ => Nat) 0 (fun _ _ r => Nat.succ r) xs
def appF (xs : List PyData) (d : PyData) : List PyData := List.rec (motive := fun _ => List PyData) [d] (fun x _ r => x :: r) xs
def setLF (d : PyData) (i : Nat) : List PyData → List PyData := Nat.rec (motive := fun _ => List PyData → List PyData) (fun xs => List.rec (motive := fun _ => List PyData) [] (fun _ t _ => d :: t) xs) (fun _ ih xs => List.rec (motive := fun _ => List PyData) [] (fun x t _ => x :: ih t) xs) i
def ixF (n : Nat) (i : Int) : Option Nat := Int.rec (motive := fun _ => Option Nat) (fun k => cF (Nat.blt k n) (some k) none) (fun k => L2.ixN n (Int.negSucc k)) i
def nxF (r : R Fl) (f : Env → R Fl) : R Fl := R.rec (motive := fun _ => R Fl) (fun x => Fl.rec (motive := fun _ => R Fl) f (fun d => .ok (.ret d)) x) R.ex R.bad r
def hidF (call : Nat → List PyData → R PyData) (fz : List Nat) (e : IE) (ρ : Env) : R PyData := List.rec (motive := fun _ => R PyData) (evF slH call e ρ) (fun _ _ _ => evF slF call e (hideAt fz 0 ρ)) fz
def gvF (fz : List Nat) (ρ : Env) : Env := List.rec (motive := fun _ => Env) ρ (fun _ _ _ => give fz ρ) fz
def forGoF (t : Tg) (fb : Env → R Fl) (xs : List PyData) : Env → R Fl := List.rec (motive := fun _ => Env → R Fl) (fun ρ => .ok (.next ρ)) (fun d _ ih ρ => oF (bindTF t d ρ) (fun ρ' => nxF (fb ρ') ih) .bad) xs
def whileGoF (fc : Env → R PyData) (fb : Env → R Fl) (n : Nat) : Env → R Fl := Nat.rec (motive := fun _ => Env → R Fl) (fun _ => .bad) (fun _ ih ρ => bF (fc ρ) fun x => bF (truthF x) fun k => cF k (nxF (fb ρ) ih) (.ok (.next ρ))) n
def o1F (f : List PyData → R Fl) (s : Sl) : R Fl := Sl.rec (motive := fun _ => R Fl) .bad (fun _ => .bad) f (fun _ => .bad) s
def shIF (f : Int → R Fl) (s : Sl) : R Fl := Sl.rec (motive := fun _ => R Fl) .bad (fun d => iF d f .bad) (fun _ => .bad) (fun _ => .bad) s
def exG (p : PyData → Bool) (ps : List PyData → Bool) (call : Nat → List PyData → R PyData) (mt : Nat → Nat → Option Bool) (st : IS) : Env → R Fl := IS.rec (motive := fun _ => Env → R Fl)
  (fun ρ => .ok (.next ρ))
  (fun m i e _ k ρ => Md.rec (motive := fun _ => R Fl)
    (bF (evF slF call e ρ) fun d => cF (p d) (k (setSF (.sh d) i ρ)) .bad)
    (bF (evF slF call e ρ) fun d => lF d (fun ds => cF (Nat.blt i ρ.length) (cF (ps ds) (k (setSF (.o1 ds) i ρ)) .bad) .bad) .bad)
    (fun fz => bF (hidF call fz e ρ) fun d => k (setSF (.sh d) i (gvF fz ρ)))
    (fun fz => bF (hidF call fz e ρ) fun d => lF d (fun ds => cF (Nat.blt i ρ.length) (k (setSF (.o1 ds) i (gvF fz ρ))) .bad) .bad) m)
  (fun m is es _ k ρ => Option.rec (motive := fun _ => R Fl)
    (bF (evF slF call es ρ) fun d => tF d (fun ds => cF (ps ds) (oF (bindManyF is ds ρ) k .bad) .bad) .bad)
    (fun fz => bF (hidF call fz es ρ) fun d => tF d (fun ds => oF (bindManyF is ds (gvF fz ρ)) k .bad) .bad) m)
  (fun o1 o2 i j e1 e2 _ k ρ => bF (evF slF call e1 ρ) fun d1 => bF (slO o1 d1) fun s1 => bF (evF slF call e2 ρ) fun d2 => bF (slO o2 d2) fun s2 => par2D i j k ρ s1 s2)
  (fun m t e _ k ρ => Option.rec (motive := fun _ => R Fl)
    (bF (evF slF call e ρ) fun d => cF (p d) (oF (bindTF t d ρ) k .bad) .bad)
    (fun fz => bF (hidF call fz e ρ) fun d => oF (bindTF t d (gvF fz ρ)) k .bad) m)
  (fun i e _ k ρ => lookF (o1F fun ds => bF (evF slF call e ρ) fun d => cF (p d) (cF (Nat.blt (lenF ds) big) (k (setSF (.o1 (appF ds d)) i ρ)) .bad) .bad) i ρ)
  (fun i ix e _ k ρ => lookF (o1F fun ds => bF (evF slF call e ρ) fun d => cF (p d) (bF (evF slF call ix ρ) fun j => iF j (fun j' => oF (ixF (lenF ds) j') (fun n => k (setSF (.o1 (setLF d n ds)) i ρ)) .bad) .bad) .bad) i ρ)
  (fun o i e _ k ρ => lookF (shIF fun a => bF (evF slF call e ρ) fun y => iF y (fun b => k (setSF (.sh (.int (augOp o a b))) i ρ)) .bad) i ρ)
  (fun e _ k ρ => bF (evF slF call e ρ) fun _ => k ρ)
  (fun e ρ => bF (evF slF call e ρ) fun d => .ok (.ret d))
  (fun c _ _ _ a b k ρ => bF (evF slF call c ρ) fun x => bF (truthF x) fun t => nxF (cF t (a ρ) (b ρ)) k)
  (fun t fz it _ _ body k ρ => bF (hidF call fz it ρ) fun x => lF x (fun xs => nxF (forGoF t body xs (gvF fz ρ)) k) .bad)
  (fun n c _ _ body k ρ => nxF (whileGoF (evF slF call c) body n ρ) k)
  (fun c _ => .ex c)
  (fun b hs _ k ρ => tryD (exq call b ρ) (fun c => exh call mt hs c ρ) k ρ)
  (fun _ k ρ => k ρ)
  (fun fz _ k ρ => k (wipeF ρ fz)) st
end
theorem lenF_eq : ∀ xs : List PyData, lenF xs = xs.length
  | [] => rfl
  | x :: xs => by rw [List.length_cons, ← lenF_eq xs]; rfl
theorem appF_eq (d : PyData) : ∀ xs : List PyData, appF xs d = xs ++ [d]
  | [] => rfl
  | x :: xs => by rw [List.cons_append, ← appF_eq d xs]; rfl
theorem setLF_eq (s : PyData) : ∀ (i : Nat) (ρ : List PyData), setLF s i ρ = ρ.set i s
  | 0, [] => rfl
  | 0, x :: ρ => rfl
  | i + 1, [] => rfl
  | i + 1, x :: ρ => by rw [List.set_cons_succ, ← setLF_eq s i ρ]; rfl
theorem ixF_eq (n : Nat) (i : Int) : ixF n i = L2.ixN n i := by
  cases i with
  | ofNat k =>
    show cF (Nat.blt k n) (some k) none = _
    unfold L2.ixN
    have h0 : (0 : Int) ≤ Int.ofNat k := Int.natCast_nonneg k
    rw [cF_eq, if_pos h0]
    by_cases h : k < n
    · have h1 : Int.ofNat k < (n : Int) := Int.ofNat_lt.mpr h
      rw [if_pos (Nat.blt_eq.mpr h), if_pos h1]; rfl
    · have h1 : ¬ Int.ofNat k < (n : Int) := fun z => h (Int.ofNat_lt.mp z)
      rw [if_neg (fun z => h (Nat.blt_eq.mp z)), if_neg h1]
  | negSucc k => rfl
theorem nxF_eq (r : R Fl) (f : Env → R Fl) : nxF r f = R.next r f := by
  cases r with
  | ok x => cases x <;> rfl
  | _ => rfl
theorem gvF_eq (fz : List Nat) (ρ : Env) : gvF fz ρ = give fz ρ := by cases fz <;> rfl
theorem hidF_eq (call : Nat → List PyData → R PyData) (fz : List Nat) (e : IE) (ρ : Env) : hidF call fz e ρ = ev call e (hideAt fz 0 ρ) := by
  cases fz with
  | nil => exact evF_eq lk_H call e ρ
  | cons z r => exact evF_eq lk_F call e _
theorem forGoF_eq (t : Tg) (fb : Env → R Fl) : ∀ (xs : List PyData) (ρ : Env), forGoF t fb xs ρ = forGo t fb xs ρ
  | [], ρ => rfl
  | d :: ds, ρ => by
    show oF (bindTF t d ρ) (fun ρ' => nxF (fb ρ') (forGoF t fb ds)) .bad = _
    rw [bindTF_eq, forGo, oF_eq]
    cases bindT t d ρ with
    | none => rfl
    | some ρ' =>
      dsimp only
      rw [nxF_eq]
      unfold R.next
      congr 1
      funext x
      cases x with
      | next σ => exact forGoF_eq t fb ds σ
      | ret d => rfl
theorem whileGoF_eq (fc : Env → R PyData) (fb : Env → R Fl) : ∀ (n : Nat) (ρ : Env), whileGoF fc fb n ρ = whileGo fc fb n ρ
  | 0, ρ => rfl
  | n + 1, ρ => by
    show bF (fc ρ) (fun x => bF (truthF x) fun k => cF k (nxF (fb ρ) (whileGoF fc fb n)) (.ok (.next ρ))) = _
    rw [whileGo, bF_eq]
    cases fc ρ with
    | ok x =>
      dsimp only [R.bind]
      rw [bF_eq, truthF_eq]
      cases truth x with
      | ok k =>
        dsimp only [R.bind]
        rw [cF_eq, nxF_eq]
        split
        · unfold R.next
          cases fb ρ with
          | ok f =>
            cases f with
            | next σ => exact whileGoF_eq fc fb n σ
            | ret d => rfl
          | _ => rfl
        · rfl
      | _ => rfl
    | _ => rfl
theorem R.bind_assoc {α β γ : Type} (r : R α) (f : α → R β) (g : β → R γ) : (r.bind f).bind g = r.bind fun x => (f x).bind g := by cases r <;> rfl
theorem exG_eq (call : Nat → List PyData → R PyData) (mt : Nat → Nat → Option Bool) (st : IS) : exG pure? pures call mt st = exec call mt st := by
  have eF : ∀ e ρ, evF slF call e ρ = ev call e ρ := fun e ρ => evF_eq lk_F call e ρ
  induction st with
  | done => funext ρ; simp only [exec]; rfl
  | set m i e k ih =>
    funext ρ
    cases m with
    | p =>
      simp only [exec, ← ih]
      show bF (evF slF call e ρ) (fun d => cF (pure? d) (exG pure? pures call mt k (setSF (.sh d) i ρ)) .bad) = _
      rw [eF, bF_eq]
      congr 1
      funext d
      rw [cF_eq, setSF_eq]
    | f =>
      simp only [exec, ← ih]
      show bF (evF slF call e ρ) (fun d => lF d (fun ds => cF (Nat.blt i ρ.length) (cF (pures ds) (exG pure? pures call mt k (setSF (.o1 ds) i ρ)) .bad) .bad) .bad) = _
      rw [eF, bF_eq]
      congr 1
      funext d
      unfold setF
      cases d <;> try rfl
      rename_i ds
      show cF (Nat.blt i ρ.length) (cF (pures ds) (exG pure? pures call mt k (setSF (.o1 ds) i ρ)) .bad) .bad = _
      rw [cF_eq, cF_eq, setSF_eq]
      by_cases h1 : i < ρ.length
      · rw [if_pos (Nat.blt_eq.mpr h1)]
        simp [h1]
      · rw [if_neg (fun z => h1 (Nat.blt_eq.mp z))]
        simp [h1]
    | z fz =>
      simp only [exec, ← ih]
      show bF (hidF call fz e ρ) (fun d => exG pure? pures call mt k (setSF (.sh d) i (gvF fz ρ))) = _
      rw [hidF_eq, bF_eq]
      congr 1
      funext d
      rw [setSF_eq, gvF_eq]
    | fz fz =>
      simp only [exec, ← ih]
      show bF (hidF call fz e ρ) (fun d => lF d (fun ds => cF (Nat.blt i ρ.length) (exG pure? pures call mt k (setSF (.o1 ds) i (gvF fz ρ))) .bad) .bad) = _
      rw [hidF_eq, bF_eq]
      congr 1
      funext d
      unfold setFz
      cases d <;> try rfl
      rename_i ds
      show cF (Nat.blt i ρ.length) (exG pure? pures call mt k (setSF (.o1 ds) i (gvF fz ρ))) .bad = _
      rw [cF_eq, setSF_eq, gvF_eq]
      by_cases h1 : i < ρ.length
      · rw [if_pos (Nat.blt_eq.mpr h1)]
        simp [h1]
      · rw [if_neg (fun z => h1 (Nat.blt_eq.mp z))]
        simp [h1]
  | par m is e k ih =>
    funext ρ
    cases m with
    | none =>
      simp only [exec, ← ih]
      show bF (evF slF call e ρ) (fun d => tF d (fun ds => cF (pures ds) (oF (bindManyF is ds ρ) (exG pure? pures call mt k) .bad) .bad) .bad) = _
      rw [eF, bF_eq]
      congr 1
      funext d
      unfold parD
      cases d <;> try rfl
      rename_i ds
      show cF (pures ds) (oF (bindManyF is ds ρ) (exG pure? pures call mt k) .bad) .bad = _
      rw [cF_eq, oF_eq, bindManyF_eq, bindMany_len]
      by_cases h1 : ds.length = is.length
      · simp [h1]
      · simp [h1]
    | some fz =>
      simp only [exec, ← ih]
      show bF (hidF call fz e ρ) (fun d => tF d (fun ds => oF (bindManyF is ds (gvF fz ρ)) (exG pure? pures call mt k) .bad) .bad) = _
      rw [hidF_eq, bF_eq]
      congr 1
      funext d
      unfold parZ
      cases d <;> try rfl
      rename_i ds
      show oF (bindManyF is ds (gvF fz ρ)) (exG pure? pures call mt k) .bad = _
      rw [oF_eq, bindManyF_eq, bindMany_len, gvF_eq]
      by_cases h1 : ds.length = is.length
      · simp [h1]
      · simp [h1]
  | par2 o1 o2 i j e1 e2 k ih =>
    funext ρ
    simp only [exec, ← ih]
    show bF (evF slF call e1 ρ) _ = _
    rw [bF_eq, evF_eq lk_F, R.bind_assoc]
    congr 1
    funext d1
    rw [bF_eq]
    congr 1
    funext s1
    rw [bF_eq, evF_eq lk_F, R.bind_assoc]
    congr 1
    funext d2
    rw [bF_eq]
    rfl
  | unp m t e k ih =>
    funext ρ
    cases m with
    | none =>
      simp only [exec, ← ih]
      show bF (evF slF call e ρ) (fun d => cF (pure? d) (oF (bindTF t d ρ) (exG pure? pures call mt k) .bad) .bad) = _
      rw [eF, bF_eq]
      congr 1
      funext d
      unfold unpD
      rw [cF_eq, oF_eq, bindTF_eq]
      split
      · cases bindT t d ρ <;> rfl
      · rfl
    | some fz =>
      simp only [exec, ← ih]
      show bF (hidF call fz e ρ) (fun d => oF (bindTF t d (gvF fz ρ)) (exG pure? pures call mt k) .bad) = _
      rw [hidF_eq, bF_eq]
      congr 1
      funext d
      unfold unpZ
      rw [oF_eq, bindTF_eq, gvF_eq]
      cases bindT t d (give fz ρ) <;> rfl
  | app i e k ih =>
    funext ρ
    simp only [exec, ← ih]
    show lookF (o1F fun ds => bF (evF slF call e ρ) fun d => cF (pure? d) (cF (Nat.blt (lenF ds) big) (exG pure? pures call mt k (setSF (.o1 (appF ds d)) i ρ)) .bad) .bad) i ρ = _
    rw [lookF_eq]
    cases q : ρ[i]? with
    | none => rfl
    | some s =>
      cases s with
      | o1 ds =>
        show bF (evF slF call e ρ) (fun d => cF (pure? d) (cF (Nat.blt (lenF ds) big) (exG pure? pures call mt k (setSF (.o1 (appF ds d)) i ρ)) .bad) .bad) = _
        rw [eF, bF_eq]
        dsimp only
        congr 1
        funext d
        unfold appD
        rw [q, cF_eq, cF_eq, setSF_eq, appF_eq, lenF_eq]
        split
        · by_cases h1 : ds.length < big
          · rw [if_pos (Nat.blt_eq.mpr h1)]
            dsimp only
            rw [if_pos h1]
          · rw [if_neg (fun z => h1 (Nat.blt_eq.mp z))]
            dsimp only
            rw [if_neg h1]
        · rfl
      | _ => rfl
  | sto i x e k ih =>
    funext ρ
    simp only [exec, ← ih]
    show lookF (o1F fun ds => bF (evF slF call e ρ) fun d => cF (pure? d) (bF (evF slF call x ρ) fun j => iF j (fun j' => oF (ixF (lenF ds) j') (fun n => exG pure? pures call mt k (setSF (.o1 (setLF d n ds)) i ρ)) .bad) .bad) .bad) i ρ = _
    rw [lookF_eq]
    cases q : ρ[i]? with
    | none => rfl
    | some s =>
      cases s with
      | o1 ds =>
        show bF (evF slF call e ρ) (fun d => cF (pure? d) (bF (evF slF call x ρ) fun j => iF j (fun j' => oF (ixF (lenF ds) j') (fun n => exG pure? pures call mt k (setSF (.o1 (setLF d n ds)) i ρ)) .bad) .bad) .bad) = _
        rw [eF, bF_eq]
        dsimp only
        congr 1
        funext d
        rw [cF_eq]
        split
        · rw [eF, bF_eq]
          congr 1
          funext j
          unfold stoD
          rw [q]
          cases j <;> try rfl
          rename_i j'
          show oF (ixF (lenF ds) j') (fun n => exG pure? pures call mt k (setSF (.o1 (setLF d n ds)) i ρ)) .bad = _
          rw [oF_eq, ixF_eq, lenF_eq]
          dsimp only
          cases L2.ixN ds.length j' with
          | none => rfl
          | some n => dsimp only; rw [setSF_eq, setLF_eq]
        · rfl
      | _ => rfl
  | aug o i e k ih =>
    funext ρ
    simp only [exec, ← ih]
    show lookF (shIF fun a => bF (evF slF call e ρ) fun y => iF y (fun b => exG pure? pures call mt k (setSF (.sh (.int (augOp o a b))) i ρ)) .bad) i ρ = _
    rw [lookF_eq]
    cases q : ρ[i]? with
    | none => rfl
    | some s =>
      cases s with
      | sh d =>
        cases d <;> try rfl
        rename_i a
        show bF (evF slF call e ρ) (fun y => iF y (fun b => exG pure? pures call mt k (setSF (.sh (.int (augOp o a b))) i ρ)) .bad) = _
        rw [eF, bF_eq]
        dsimp only
        congr 1
        funext y
        unfold augD
        cases y <;> try rfl
        rename_i b
        show exG pure? pures call mt k (setSF (.sh (.int (augOp o a b))) i ρ) = _
        rw [setSF_eq]
      | _ => rfl
  | expr e k ih => funext ρ; simp only [exec, ← ih, ← eF, ← bF_eq]; rfl
  | ret e => funext ρ; simp only [exec, ← eF, ← bF_eq]; rfl
  | ite c x y k ihx ihy ihk =>
    funext ρ
    simp only [exec, ← ihx, ← ihy, ← ihk, ← eF]
    show bF (evF slF call c ρ) (fun x1 => bF (truthF x1) fun t => nxF (cF t (exG pure? pures call mt x ρ) (exG pure? pures call mt y ρ)) (exG pure? pures call mt k)) = _
    rw [bF_eq]
    cases evF slF call c ρ with
    | ok v =>
      dsimp only [R.bind]
      rw [bF_eq, truthF_eq]
      congr 1
      funext t
      rw [nxF_eq, cF_eq]
    | _ => rfl
  | for_ t fz it b k ihb ihk =>
    funext ρ
    simp only [exec, ← ihb, ← ihk]
    show bF (hidF call fz it ρ) (fun x => lF x (fun xs => nxF (forGoF t (exG pure? pures call mt b) xs (gvF fz ρ)) (exG pure? pures call mt k)) .bad) = _
    rw [hidF_eq, bF_eq]
    congr 1
    funext x
    unfold forD
    cases x <;> try rfl
    rename_i xs
    show nxF (forGoF t (exG pure? pures call mt b) xs (gvF fz ρ)) (exG pure? pures call mt k) = _
    rw [nxF_eq, forGoF_eq, gvF_eq]
  | while_ n c b k ihb ihk =>
    funext ρ
    simp only [exec, ← ihb, ← ihk]
    show nxF (whileGoF (evF slF call c) (exG pure? pures call mt b) n ρ) (exG pure? pures call mt k) = _
    rw [nxF_eq, whileGoF_eq]
    congr 2
    funext ρ
    exact eF c ρ
  | raise c => funext ρ; simp only [exec]; rfl
  | try_ b hs k ih => funext ρ; simp only [exec, ← ih]; rfl
  | pas k ih => funext ρ; simp only [exec, ← ih]; rfl
  | fgt fz k ih =>
    funext ρ
    simp only [exec, ← ih]
    show exG pure? pures call mt k (wipeF ρ fz) = _
    rw [wipeF_eq]
noncomputable def exF (call : Nat → List PyData → R PyData) (mt : Nat → Nat → Option Bool) (st : IS) : Env → R Fl := exG pureF puresF call mt st
theorem exF_eq (call : Nat → List PyData → R PyData) (mt : Nat → Nat → Option Bool) (st : IS) : exF call mt st = exec call mt st := by
  unfold exF
  rw [show pureF = pure? from funext pureF_eq, show puresF = pures from funext puresF_eq]
  exact exG_eq call mt st
end DL
namespace DL
open PySem PySem.Spec PyProof.Rows L2
/-! ### data of which less is known: a number by its rest alone -/
def rst (M r : Int) : PyData := .dict [(.int M, .int r)]
mutual
def Fk (a b : PyData) : Prop := match a with
  | .none => b = .none
  | .bool x => b = .bool x
  | .int x => b = .int x
  | .str x => b = .str x
  | .list xs => ∃ ys, b = .list ys ∧ FkA xs ys
  | .tuple xs => ∃ ys, b = .tuple ys ∧ FkA xs ys
  | .dict kvs => b = .dict kvs ∨ ∃ M r x, kvs = [(.int M, .int r)] ∧ b = .int x ∧ x % M = r % M
termination_by structural a
def FkA (as bs : List PyData) : Prop := match as with
  | [] => bs = []
  | a :: as => ∃ b r, bs = b :: r ∧ Fk a b ∧ FkA as r
termination_by structural as
end
mutual
theorem Fk.refl : ∀ a : PyData, Fk a a
  | .none => by simp only [Fk]
  | .bool _ => by simp only [Fk]
  | .int _ => by simp only [Fk]
  | .str _ => by simp only [Fk]
  | .list xs => by simp only [Fk]; exact ⟨xs, rfl, FkA.refl xs⟩
  | .tuple xs => by simp only [Fk]; exact ⟨xs, rfl, FkA.refl xs⟩
  | .dict kvs => by simp only [Fk]; exact .inl trivial
theorem FkA.refl : ∀ as : List PyData, FkA as as
  | [] => by simp only [FkA]
  | a :: as => by simp only [FkA]; exact ⟨a, as, rfl, Fk.refl a, FkA.refl as⟩
end
theorem FkA.nil : FkA [] [] := by simp only [FkA]
theorem FkA.cons {a b : PyData} {as bs : List PyData} (h : Fk a b) (g : FkA as bs) : FkA (a :: as) (b :: bs) := by simp only [FkA]; exact ⟨b, bs, rfl, h, g⟩
theorem FkA.nil_of {bs : List PyData} (h : FkA [] bs) : bs = [] := by simpa only [FkA] using h
theorem FkA.cons_of {a : PyData} {as bs : List PyData} (h : FkA (a :: as) bs) : ∃ b r, bs = b :: r ∧ Fk a b ∧ FkA as r := by simpa only [FkA] using h
theorem FkA.length : ∀ {as bs : List PyData}, FkA as bs → bs.length = as.length
  | [], bs, h => by rw [h.nil_of]
  | a :: as, bs, h => by
    obtain ⟨b, r, e, _, g⟩ := h.cons_of
    subst e
    rw [List.length_cons, List.length_cons, g.length]
theorem FkA.empty {as bs : List PyData} (h : FkA as bs) : bs.isEmpty = as.isEmpty := by
  have := h.length
  cases as <;> cases bs <;> first | rfl | (simp at this; done)
theorem FkA.append : ∀ {as bs cs ds : List PyData}, FkA as bs → FkA cs ds → FkA (as ++ cs) (bs ++ ds)
  | [], bs, cs, ds, h, g => by rw [h.nil_of]; exact g
  | a :: as, bs, cs, ds, h, g => by
    obtain ⟨b, r, e, h1, h2⟩ := h.cons_of
    subst e
    exact .cons h1 (h2.append g)
theorem FkA.drop : ∀ (n : Nat) {as bs : List PyData}, FkA as bs → FkA (as.drop n) (bs.drop n)
  | 0, as, bs, h => h
  | n + 1, [], bs, h => by rw [h.nil_of]; exact .nil
  | n + 1, a :: as, bs, h => by
    obtain ⟨b, r, e, h1, h2⟩ := h.cons_of
    subst e
    exact h2.drop n
theorem FkA.take : ∀ (n : Nat) {as bs : List PyData}, FkA as bs → FkA (as.take n) (bs.take n)
  | 0, as, bs, h => .nil
  | n + 1, [], bs, h => by rw [h.nil_of]; exact .nil
  | n + 1, a :: as, bs, h => by
    obtain ⟨b, r, e, h1, h2⟩ := h.cons_of
    subst e
    exact .cons h1 (h2.take n)
theorem FkA.reverse : ∀ {as bs : List PyData}, FkA as bs → FkA as.reverse bs.reverse
  | [], bs, h => by rw [h.nil_of]; exact .nil
  | a :: as, bs, h => by
    obtain ⟨b, r, e, h1, h2⟩ := h.cons_of
    subst e
    rw [List.reverse_cons, List.reverse_cons]
    exact h2.reverse.append (.cons h1 .nil)
theorem FkA.rep {as bs : List PyData} (h : FkA as bs) : ∀ k : Nat, FkA (List.replicate k as).flatten (List.replicate k bs).flatten
  | 0 => .nil
  | k + 1 => by
    rw [List.replicate_succ, List.replicate_succ, List.flatten_cons, List.flatten_cons]
    exact h.append (h.rep k)
theorem FkA.get : ∀ {as bs : List PyData} {i : Nat} {a : PyData}, FkA as bs → as[i]? = some a → ∃ b, bs[i]? = some b ∧ Fk a b
  | [], bs, i, a, h, e => by simp at e
  | a' :: as, bs, i, a, h, e => by
    obtain ⟨b, r, eb, h1, h2⟩ := h.cons_of
    subst eb
    cases i with
    | zero =>
      simp only [List.getElem?_cons_zero, Option.some.injEq] at e
      subst e
      exact ⟨b, rfl, h1⟩
    | succ i =>
      rw [List.getElem?_cons_succ] at e ⊢
      exact h2.get e
theorem FkA.set : ∀ {as bs : List PyData} {a b : PyData} (i : Nat), FkA as bs → Fk a b → FkA (as.set i a) (bs.set i b)
  | [], bs, a, b, i, h, _ => by rw [h.nil_of]; exact .nil
  | a' :: as, bs, a, b, i, h, g => by
    obtain ⟨b', r, e, h1, h2⟩ := h.cons_of
    subst e
    cases i with
    | zero => exact .cons g h2
    | succ i => exact .cons h1 (h2.set i g)
mutual
/-- a datum without such numbers is known -/
def known (d : PyData) : Bool := match d with
  | .list xs => knowns xs
  | .tuple xs => knowns xs
  | .dict _ => false
  | _ => true
termination_by structural d
def knowns (d : List PyData) : Bool := match d with
  | [] => true
  | x :: xs => known x && knowns xs
termination_by structural d
end
mutual
theorem Fk.known : ∀ (a b : PyData), DL.known a = true → Fk a b → b = a
  | .none, b, _, h => by simpa only [Fk] using h
  | .bool _, b, _, h => by simpa only [Fk] using h
  | .int _, b, _, h => by simpa only [Fk] using h
  | .str _, b, _, h => by simpa only [Fk] using h
  | .list xs, b, k, h => by
    simp only [Fk] at h
    simp only [DL.known] at k
    obtain ⟨ys, rfl, g⟩ := h
    rw [FkA.known xs ys k g]
  | .tuple xs, b, k, h => by
    simp only [Fk] at h
    simp only [DL.known] at k
    obtain ⟨ys, rfl, g⟩ := h
    rw [FkA.known xs ys k g]
  | .dict kvs, b, k, h => by simp [DL.known] at k
theorem FkA.known : ∀ (a b : List PyData), knowns a = true → FkA a b → b = a
  | [], b, _, h => h.nil_of
  | a :: as, b, k, h => by
    obtain ⟨b', r, e, h1, h2⟩ := h.cons_of
    simp only [knowns, Bool.and_eq_true] at k
    rw [e, Fk.known a b' k.1 h1, FkA.known as r k.2 h2]
end
mutual
theorem known_of_lay : ∀ d : PyData, d.canLay0 = true → known d = true
  | .none, _ => by simp only [known]
  | .bool _, _ => by simp only [known]
  | .int _, _ => by simp only [known]
  | .str _, _ => by simp only [known]
  | .list xs, h => by simp only [PyData.canLay0] at h; simp only [known]; exact knowns_of_lay xs h
  | .tuple xs, h => by simp only [PyData.canLay0] at h; simp only [known]; exact knowns_of_lay xs h
  | .dict kvs, h => by simp [PyData.canLay0] at h
theorem knowns_of_lay : ∀ d : List PyData, PyData.canLayAll0 d = true → knowns d = true
  | [], _ => by simp only [knowns]
  | x :: xs, h => by
    simp only [PyData.canLayAll0, Bool.and_eq_true] at h
    simp only [knowns, known_of_lay x h.1, knowns_of_lay xs h.2, Bool.and_self]
end
mutual
theorem known_of_pure : ∀ d : PyData, pure? d = true → known d = true
  | .none, _ => by simp only [known]
  | .bool _, _ => by simp only [known]
  | .int _, _ => by simp only [known]
  | .str _, _ => by simp only [known]
  | .list xs, h => by simp [pure?] at h
  | .tuple xs, h => by simp only [pure?] at h; simp only [known]; exact knowns_of_pure xs h
  | .dict kvs, h => by simp [pure?] at h
theorem knowns_of_pure : ∀ d : List PyData, pures d = true → knowns d = true
  | [], _ => by simp only [knowns]
  | x :: xs, h => by
    simp only [pures, Bool.and_eq_true] at h
    simp only [knowns, known_of_pure x h.1, knowns_of_pure xs h.2, Bool.and_self]
end
/-! ### results -/
/-- r' is r, or r tells nothing -/
def RR {α β : Type} (P : α → β → Prop) (r : R α) (r' : R β) : Prop := match r with
  | .bad => True
  | .ex c => r' = .ex c
  | .ok a => ∃ b, r' = .ok b ∧ P a b
theorem RR.bad {α β : Type} {P : α → β → Prop} {r' : R β} : RR P .bad r' := trivial
theorem RR.ok {α β : Type} {P : α → β → Prop} {a : α} {b : β} (h : P a b) : RR P (.ok a) (.ok b) := ⟨b, rfl, h⟩
theorem RR.bind {α β γ δ : Type} {P : α → β → Prop} {Q : γ → δ → Prop} {r : R α} {r' : R β} {f : α → R γ} {g : β → R δ} (h : RR P r r') (hf : ∀ a b, P a b → RR Q (f a) (g b)) : RR Q (r.bind f) (r'.bind g) := by
  cases r with
  | ok a =>
    obtain ⟨b, e, p⟩ := h
    subst e
    exact hf a b p
  | ex c =>
    have e : r' = .ex c := h
    subst e
    exact rfl
  | bad => exact trivial
theorem RR.refl {α : Type} {P : α → α → Prop} (hP : ∀ a, P a a) (r : R α) : RR P r r := by
  cases r with
  | ok a => exact ⟨a, rfl, hP a⟩
  | ex c => exact rfl
  | bad => exact trivial
theorem RR.eq {α : Type} (r : R α) : RR Eq r r := RR.refl (fun _ => rfl) r
theorem RR.ite {α β : Type} {P : α → β → Prop} {c c' : Prop} [Decidable c] [Decidable c'] {r s : R α} {r' s' : R β} (h : c ↔ c') (h1 : RR P r r') (h2 : RR P s s') : RR P (if c then r else s) (if c' then r' else s') := by
  by_cases q : c
  · rw [if_pos q, if_pos (h.mp q)]; exact h1
  · rw [if_neg q, if_neg (fun z => q (h.mpr z))]; exact h2
/-! what a known shape tells -/
theorem Fk.int {i : Int} {b : PyData} (h : Fk (.int i) b) : b = .int i := by simpa only [Fk] using h
theorem Fk.bool {i : Bool} {b : PyData} (h : Fk (.bool i) b) : b = .bool i := by simpa only [Fk] using h
theorem Fk.none {b : PyData} (h : Fk .none b) : b = .none := by simpa only [Fk] using h
theorem Fk.str {i : Str} {b : PyData} (h : Fk (.str i) b) : b = .str i := by simpa only [Fk] using h
theorem Fk.list {i : List PyData} {b : PyData} (h : Fk (.list i) b) : ∃ ys, b = .list ys ∧ FkA i ys := by simpa only [Fk] using h
theorem Fk.tuple {i : List PyData} {b : PyData} (h : Fk (.tuple i) b) : ∃ ys, b = .tuple ys ∧ FkA i ys := by simpa only [Fk] using h
theorem Fk.dict {i : List (PyData × PyData)} {b : PyData} (h : Fk (.dict i) b) : b = .dict i ∨ ∃ M r x, i = [(.int M, .int r)] ∧ b = .int x ∧ x % M = r % M := by simpa only [Fk] using h
theorem Fk.ofList {xs ys : List PyData} (h : FkA xs ys) : Fk (.list xs) (.list ys) := by simp only [Fk]; exact ⟨ys, rfl, h⟩
theorem Fk.ofTuple {xs ys : List PyData} (h : FkA xs ys) : Fk (.tuple xs) (.tuple ys) := by simp only [Fk]; exact ⟨ys, rfl, h⟩
end DL
namespace DL
open PySem PySem.Spec PyProof.Rows L2
/-! ### the operations, over data of which less is known -/
theorem fk_truth {a b : PyData} (h : Fk a b) : RR Eq (truth a) (truth b) := by
  cases a with
  | list xs => obtain ⟨ys, rfl, g⟩ := h.list; have := g.length; cases xs <;> cases ys <;> first | exact RR.ok rfl | (simp at this; done)
  | tuple xs => obtain ⟨ys, rfl, g⟩ := h.tuple; have := g.length; cases xs <;> cases ys <;> first | exact RR.ok rfl | (simp at this; done)
  | dict kvs => exact RR.bad
  | none => rw [h.none]; exact RR.eq _
  | bool _ => rw [h.bool]; exact RR.eq _
  | int _ => rw [h.int]; exact RR.eq _
  | str _ => rw [h.str]; exact RR.eq _
theorem fk_rfl (r : R PyData) : RR Fk r r := RR.refl Fk.refl r
theorem fk_bin (o : Bop) {a b a' b' : PyData} (h : Fk a a') (g : Fk b b') : RR Fk (binD o a b) (binD o a' b') := by
  unfold binD
  split <;> first
    | (rw [h.int, g.int]; exact fk_rfl _)
    | (rw [h.str, g.str]; exact fk_rfl _)
    | exact RR.bad
    | skip
  · obtain ⟨xs, rfl, h1⟩ := h.list
    obtain ⟨ys, rfl, g1⟩ := g.list
    exact RR.ite (by rw [h1.length, g1.length]) (RR.ok (.ofList (h1.append g1))) RR.bad
  · obtain ⟨xs, rfl, h1⟩ := h.tuple
    obtain ⟨ys, rfl, g1⟩ := g.tuple
    exact RR.ite (by rw [h1.length, g1.length]) (RR.ok (.ofTuple (h1.append g1))) RR.bad
  · obtain ⟨xs, rfl, h1⟩ := h.list
    rw [g.int]
    exact RR.ite (by rw [h1.length]) (RR.ok (.ofList (h1.rep _))) RR.bad
  · obtain ⟨xs, rfl, h1⟩ := h.tuple
    rw [g.int]
    refine RR.ite ?_ (RR.ok (.ofTuple (h1.rep _))) RR.bad
    rw [h1.length, h1.empty]
  · rename_i M r m
    rw [g.int]
    rcases h.dict with e | ⟨M2, r2, x, e1, e2, e3⟩
    · subst e
      exact fk_rfl _
    · subst e2
      cases e1
      by_cases q : 0 < m ∧ 0 < M ∧ M % m = 0
      · rw [if_pos q]
        show RR Fk _ (if 0 < m then R.ok (PyData.int (x % m)) else .bad)
        rw [if_pos q.1]
        have d : m ∣ M := Int.dvd_of_emod_eq_zero q.2.2
        have : x % m = r % m := by rw [← Int.emod_emod_of_dvd x d, e3, Int.emod_emod_of_dvd r d]
        rw [this]
        exact fk_rfl _
      · rw [if_neg q]; exact RR.bad
theorem fk_eq {a b a' b' : PyData} (h : Fk a a') (g : Fk b b') : RR Eq (eqD a b) (eqD a' b') := by
  unfold eqD
  split
  · rw [h.int, g.int]; exact RR.eq _
  · rw [h.bool, g.bool]; exact RR.eq _
  · rw [h.none, g.none]; exact RR.eq _
  · rename_i n1 n2 n3
    by_cases q : (SeqAt.shaped a && SeqAt.shaped b) = true
    · obtain ⟨q1, q2⟩ := Bool.and_eq_true_iff.mp q
      have e1 := Fk.known a a' (known_of_lay a (SeqAt.canLay_of_shaped q1)) h
      have e2 := Fk.known b b' (known_of_lay b (SeqAt.canLay_of_shaped q2)) g
      subst e1 e2
      rw [if_pos q]
      split
      · exact absurd rfl (n1 _ _ rfl)
      · exact absurd rfl (n2 _ _ rfl)
      · exact absurd rfl (n3 rfl)
      · exact RR.eq _
    · rw [if_neg q]; exact RR.bad
theorem known_of_scalar {d : PyData} (h : scalar d = true) : known d = true := by cases d <;> first | rfl | (simp [scalar] at h; done) | simp only [known]
theorem knowns_of_scalars : ∀ {xs : List PyData}, xs.all scalar = true → knowns xs = true
  | [], _ => by simp only [knowns]
  | x :: xs, h => by
    rw [List.all_cons, Bool.and_eq_true] at h
    simp only [knowns, known_of_scalar h.1, knowns_of_scalars h.2, Bool.and_self]
theorem fk_in {a a' : PyData} {xs ys : List PyData} (h : Fk a a') (g : FkA xs ys) : RR Eq (inD a xs) (inD a' ys) := by
  unfold inD
  by_cases q : (scalar a && xs.all scalar) = true
  · obtain ⟨q1, q2⟩ := Bool.and_eq_true_iff.mp q
    have e1 := Fk.known a a' (known_of_scalar q1) h
    have e2 := FkA.known xs ys (knowns_of_scalars q2) g
    subst e1 e2
    exact RR.eq _
  · rw [if_neg q]; exact RR.bad
theorem fk_isNone {a a' : PyData} (h : Fk a a') : isNone a' = isNone a := by
  cases a with
  | list xs => obtain ⟨ys, rfl, _⟩ := h.list; rfl
  | tuple xs => obtain ⟨ys, rfl, _⟩ := h.tuple; rfl
  | dict kvs => rcases h.dict with e | ⟨_, _, _, _, e, _⟩ <;> (rw [e]; first | done | rfl)
  | none => rw [h.none]
  | bool _ => rw [h.bool]; first | done | rfl
  | int _ => rw [h.int]; first | done | rfl
  | str _ => rw [h.str]; first | done | rfl
theorem fk_cmp (o : Cop) {a b a' b' : PyData} (h : Fk a a') (g : Fk b b') : RR Eq (cmpD o a b) (cmpD o a' b') := by
  cases o
  · cases a <;> cases b <;> first | exact RR.bad | (rw [h.int, g.int]; exact RR.eq _)
  · cases a <;> cases b <;> first | exact RR.bad | (rw [h.int, g.int]; exact RR.eq _)
  · cases a <;> cases b <;> first | exact RR.bad | (rw [h.int, g.int]; exact RR.eq _)
  · cases a <;> cases b <;> first | exact RR.bad | (rw [h.int, g.int]; exact RR.eq _)
  · have e : ∀ x y, cmpD .eq x y = eqD x y := fun x y => by cases x <;> cases y <;> rfl
    rw [e, e]; exact fk_eq h g
  · have e : ∀ x y, cmpD .ne x y = (eqD x y).bind fun k => .ok (!k) := fun x y => by cases x <;> cases y <;> rfl
    rw [e, e]
    exact RR.bind (fk_eq h g) fun x y q => by subst q; exact RR.eq _
  · cases b <;> first | (cases a <;> exact RR.bad) | skip
    rw [g.none]
    have e : ∀ x, cmpD .is_ x .none = .ok (isNone x) := fun x => by cases x <;> rfl
    rw [e, e, fk_isNone h]; exact RR.eq _
  · cases b <;> first | (cases a <;> exact RR.bad) | skip
    rw [g.none]
    have e : ∀ x, cmpD .isnot x .none = .ok (!isNone x) := fun x => by cases x <;> rfl
    rw [e, e, fk_isNone h]; exact RR.eq _
  · have e1 : ∀ x ys, cmpD .in_ x (.tuple ys) = inD x ys := fun x ys => by cases x <;> rfl
    have e2 : ∀ x ys, cmpD .in_ x (.list ys) = inD x ys := fun x ys => by cases x <;> rfl
    cases b <;> first | (cases a <;> exact RR.bad) | skip
    · obtain ⟨ys, rfl, g1⟩ := g.list; rw [e2, e2]; exact fk_in h g1
    · obtain ⟨ys, rfl, g1⟩ := g.tuple; rw [e1, e1]; exact fk_in h g1
  · have e1 : ∀ x ys, cmpD .notin x (.tuple ys) = (inD x ys).bind fun k => .ok (!k) := fun x ys => by cases x <;> rfl
    have e2 : ∀ x ys, cmpD .notin x (.list ys) = (inD x ys).bind fun k => .ok (!k) := fun x ys => by cases x <;> rfl
    cases b <;> first | (cases a <;> exact RR.bad) | skip
    · obtain ⟨ys, rfl, g1⟩ := g.list; rw [e2, e2]; exact RR.bind (fk_in h g1) fun x y q => by subst q; exact RR.eq _
    · obtain ⟨ys, rfl, g1⟩ := g.tuple; rw [e1, e1]; exact RR.bind (fk_in h g1) fun x y q => by subst q; exact RR.eq _
theorem fk_neg {a b : PyData} (h : Fk a b) : RR Fk (negD a) (negD b) := by
  cases a <;> first | exact RR.bad | skip
  rw [h.int]; exact fk_rfl _
theorem fk_num {a b : PyData} (h : Fk a b) : RR Fk (numD a) (numD b) := by
  cases a <;> first | exact RR.bad | skip
  rw [h.int]; exact fk_rfl _
theorem fk_part {a b : PyData} (h : Fk a b) : RR Eq (partD a) (partD b) := by
  cases a <;> first | exact RR.bad | skip
  · rw [h.none]; exact RR.eq _
  · rw [h.int]; exact RR.eq _
theorem fk_at {xs ys : List PyData} (h : FkA xs ys) (i : Int) : RR Fk (atD xs i) (atD ys i) := by
  have key : ∀ k : Nat, RR Fk (match xs[k]? with
      | some d => R.ok d
      | none => .bad) (match ys[k]? with
      | some d => R.ok d
      | none => .bad) := fun k => by
    cases e : xs[k]? with
    | none => exact RR.bad
    | some a =>
      obtain ⟨b, e2, q⟩ := h.get e
      rw [e2]
      exact RR.ok q
  cases i with
  | ofNat k => exact key k
  | negSucc k =>
    unfold atD
    dsimp only
    rw [h.length]
    exact RR.ite Iff.rfl (key _) RR.bad
theorem fk_sub {a b a' b' : PyData} (h : Fk a a') (g : Fk b b') : RR Fk (subD a b) (subD a' b') := by
  unfold subD
  split
  · obtain ⟨ys, rfl, h1⟩ := h.tuple; rw [g.int]; exact fk_at h1 _
  · obtain ⟨ys, rfl, h1⟩ := h.list; rw [g.int]; exact fk_at h1 _
  · rcases h.dict with e | ⟨_, _, _, e, _⟩
    · rw [e, g.int]; exact fk_rfl _
    · simp at e
  · exact RR.bad
theorem fk_slice {a a' : PyData} (lo hi : Option Int) (h : Fk a a') : RR Fk (sliceD a lo hi) (sliceD a' lo hi) := by
  have key : ∀ {xs ys : List PyData}, FkA xs ys → FkA (cutD xs lo hi) (cutD ys lo hi) := fun {xs ys} q => by
    unfold cutD
    rw [q.length]
    exact FkA.take _ (FkA.drop _ q)
  cases a <;> first | exact RR.bad | skip
  · obtain ⟨ys, rfl, h1⟩ := h.list; exact RR.ok (.ofList (key h1))
  · obtain ⟨ys, rfl, h1⟩ := h.tuple; exact RR.ok (.ofTuple (key h1))
theorem fk_rev {a a' : PyData} (h : Fk a a') : RR Fk (revD a) (revD a') := by
  cases a <;> first | exact RR.bad | skip
  obtain ⟨ys, rfl, h1⟩ := h.list; exact RR.ok (.ofList h1.reverse)
theorem fk_lst {a a' : PyData} (h : Fk a a') : RR Fk (lstD a) (lstD a') := by
  cases a <;> first | exact RR.bad | skip
  obtain ⟨ys, rfl, h1⟩ := h.tuple; exact RR.ok (.ofList h1)
theorem fk_unT {f g : List PyData → R PyData} (hf : ∀ xs ys, FkA xs ys → RR Fk (f xs) (g ys)) {a a' : PyData} (h : Fk a a') : RR Fk (unT f a) (unT g a') := by
  cases a <;> first | exact RR.bad | skip
  obtain ⟨ys, rfl, h1⟩ := h.tuple; exact hf _ _ h1
theorem fk_cons {x x' a a' : PyData} (q : Fk x x') (h : Fk a a') : RR Fk (consD x a) (consD x' a') := by
  cases a <;> first | exact RR.bad | skip
  obtain ⟨ys, rfl, h1⟩ := h.tuple; exact RR.ok (.ofTuple (.cons q h1))
theorem known_of_ints : ∀ {xs : List PyData} {ns : List Int}, intsOf xs = some ns → knowns xs = true
  | [], _, _ => by simp only [knowns]
  | x :: xs, ns, h => by
    cases x <;> simp only [intsOf] at h <;> try cases h
    cases e : intsOf xs with
    | none => rw [e] at h; cases h
    | some ms => simp only [knowns, known, known_of_ints e, Bool.and_self]
theorem fk_ints {f : Option (List Int) → R PyData} (hf : f none = .bad) {xs ys : List PyData} (h : FkA xs ys) : RR Fk (f (intsOf xs)) (f (intsOf ys)) := by
  cases e : intsOf xs with
  | none => rw [hf]; exact RR.bad
  | some ns =>
    have := FkA.known xs ys (known_of_ints e) h
    subst this
    rw [e]; exact fk_rfl _
theorem one_fk {a : PyData} {ys : List PyData} (h : FkA [a] ys) : ∃ b, ys = [b] ∧ Fk a b := by
  obtain ⟨b, r, e, h1, h2⟩ := h.cons_of
  rw [h2.nil_of] at e
  exact ⟨b, e, h1⟩
theorem two_fk {a c : PyData} {ys : List PyData} (h : FkA [a, c] ys) : ∃ b d, ys = [b, d] ∧ Fk a b ∧ Fk c d := by
  obtain ⟨b, r, e, h1, h2⟩ := h.cons_of
  obtain ⟨d, e2, h3⟩ := one_fk h2
  rw [e2] at e
  exact ⟨b, d, e, h1, h3⟩
theorem fk_sum {xs ys : List PyData} (h : FkA xs ys) : RR Fk (sumD xs) (sumD ys) := fk_ints (f := fun o => match o with
  | some ns => .ok (.int ns.sum)
  | none => .bad) rfl h
theorem fk_low {xs ys : List PyData} (h : FkA xs ys) : RR Fk (lowD xs) (lowD ys) := fk_ints (f := fun o => match o with
  | some (n :: ns) => .ok (.int (lowI n ns))
  | _ => .bad) rfl h
theorem fk_high {xs ys : List PyData} (h : FkA xs ys) : RR Fk (highD xs) (highD ys) := fk_ints (f := fun o => match o with
  | some (n :: ns) => .ok (.int (highI n ns))
  | _ => .bad) rfl h
theorem fk_sortD {xs ys : List PyData} (h : FkA xs ys) : RR Fk (sortD xs) (sortD ys) := fk_ints (f := fun o => match o with
  | some ns => .ok (.list ((sortZ ns).map PyData.int))
  | none => .bad) rfl h
theorem knowns_tups {d : Nat} : ∀ {xs : List PyData} {nss : List (List Int)}, tupsOf d xs = some nss → knowns xs = true
  | [], _, _ => by simp only [knowns]
  | x :: xs, nss, h => by
    cases x <;> simp only [tupsOf] at h <;> try cases h
    rename_i ts
    cases e : intsOf ts with
    | none => rw [e] at h; cases h
    | some ns =>
      cases e2 : tupsOf d xs with
      | none => rw [e, e2] at h; cases h
      | some mss => simp only [knowns, known, known_of_ints e, knowns_tups e2, Bool.and_self]
theorem sortDL_known {xs : List PyData} {d : PyData} (h : sortDL xs = .ok d) : knowns xs = true := by
  unfold sortDL at h
  split at h
  · rename_i e; exact known_of_ints e
  · split at h
    · split at h
      · rename_i e; exact knowns_tups e
      · cases h
    · cases h
theorem fk_sortDL {xs ys : List PyData} (h : FkA xs ys) : RR Fk (sortDL xs) (sortDL ys) := by
  cases e : sortDL xs with
  | ok d =>
    have : ys = xs := FkA.known _ _ (sortDL_known e) h
    rw [this, e]
    exact RR.ok (Fk.refl d)
  | bad => exact RR.bad
  | ex c =>
    exfalso
    unfold sortDL at e
    split at e
    · cases e
    · split at e
      · split at e
        · split at e <;> cases e
        · cases e
      · cases e
theorem fk_blt (b : Blt) {xs ys : List PyData} (h : FkA xs ys) : RR Fk (bltD b xs) (bltD b ys) := by
  unfold bltD
  split
  · obtain ⟨d, rfl, q⟩ := one_fk h; obtain ⟨zs, rfl, q1⟩ := q.tuple; exact RR.ok (by rw [q1.length]; exact Fk.refl _)
  · obtain ⟨d, rfl, q⟩ := one_fk h; obtain ⟨zs, rfl, q1⟩ := q.list; exact RR.ok (by rw [q1.length]; exact Fk.refl _)
  · obtain ⟨d, rfl, q⟩ := one_fk h
    rcases q.dict with e | ⟨_, _, _, e, _⟩
    · rw [e]; exact fk_rfl _
    · simp at e
  · obtain ⟨d, rfl, q⟩ := one_fk h; rw [q.str]; exact fk_rfl _
  · obtain ⟨d, rfl, q⟩ := one_fk h; rw [q.int]; exact fk_rfl _
  · obtain ⟨d, rfl, q⟩ := one_fk h; rw [q.int]; exact fk_rfl _
  · obtain ⟨d, rfl, q⟩ := one_fk h; rw [q.bool]; exact fk_rfl _
  · obtain ⟨d, rfl, q⟩ := one_fk h; rw [q.int]; exact fk_rfl _
  · obtain ⟨d, rfl, q⟩ := one_fk h; obtain ⟨zs, rfl, q1⟩ := q.list; exact RR.ok (.ofTuple q1)
  · obtain ⟨d, rfl, q⟩ := one_fk h; obtain ⟨zs, rfl, q1⟩ := q.tuple; exact RR.ok (.ofTuple q1)
  · obtain ⟨d, rfl, q⟩ := one_fk h; obtain ⟨zs, rfl, q1⟩ := q.list; exact RR.ok (.ofList q1)
  · obtain ⟨d, rfl, q⟩ := one_fk h; obtain ⟨zs, rfl, q1⟩ := q.tuple; exact RR.ok (.ofList q1)
  · obtain ⟨d, e, rfl, q, q2⟩ := two_fk h; rw [q.int, q2.int]; exact fk_rfl _
  · obtain ⟨d, e, rfl, q, q2⟩ := two_fk h; rw [q.int, q2.int]; exact fk_rfl _
  · obtain ⟨d, rfl, q⟩ := one_fk h; obtain ⟨zs, rfl, q1⟩ := q.list; exact fk_sum q1
  · obtain ⟨d, rfl, q⟩ := one_fk h; obtain ⟨zs, rfl, q1⟩ := q.tuple; exact fk_sum q1
  · obtain ⟨d, rfl, q⟩ := one_fk h; obtain ⟨zs, rfl, q1⟩ := q.list; exact fk_low q1
  · obtain ⟨d, rfl, q⟩ := one_fk h; obtain ⟨zs, rfl, q1⟩ := q.tuple; exact fk_low q1
  · obtain ⟨d, rfl, q⟩ := one_fk h; obtain ⟨zs, rfl, q1⟩ := q.list; exact fk_high q1
  · obtain ⟨d, rfl, q⟩ := one_fk h; obtain ⟨zs, rfl, q1⟩ := q.tuple; exact fk_high q1
  · obtain ⟨d, rfl, q⟩ := one_fk h; obtain ⟨zs, rfl, q1⟩ := q.list; exact fk_sortDL q1
  · obtain ⟨d, rfl, q⟩ := one_fk h; obtain ⟨zs, rfl, q1⟩ := q.tuple; exact fk_sortD q1
  · exact RR.bad
theorem fk_isi {a a' : PyData} (T : String) (h : Fk a a') : RR Eq (isiD a T) (isiD a' T) := by
  cases a with
  | list xs => obtain ⟨ys, rfl, _⟩ := h.list; exact RR.eq _
  | tuple xs => obtain ⟨ys, rfl, _⟩ := h.tuple; exact RR.eq _
  | dict kvs => exact RR.bad
  | none => rw [h.none]; exact RR.eq _
  | bool _ => rw [h.bool]; exact RR.eq _
  | int _ => rw [h.int]; exact RR.eq _
  | str _ => rw [h.str]; exact RR.eq _
theorem fk_seq {a a' : PyData} (h : Fk a a') : RR FkA (seqOf a) (seqOf a') := by
  cases a <;> first | exact RR.bad | skip
  · obtain ⟨ys, rfl, q⟩ := h.list; exact RR.ok q
  · obtain ⟨ys, rfl, q⟩ := h.tuple; exact RR.ok q
theorem fk_lstOf {a a' : PyData} (h : Fk a a') : RR FkA (lstOf a) (lstOf a') := by
  cases a <;> first | exact RR.bad | skip
  obtain ⟨ys, rfl, q⟩ := h.list; exact RR.ok q
theorem fk_r1 {a a' : PyData} (h : Fk a a') : RR Fk (r1D a) (r1D a') := by
  cases a <;> first | exact RR.bad | skip
  rw [h.int]; exact fk_rfl _
theorem fk_r2 {a a' b b' : PyData} (h : Fk a a') (g : Fk b b') : RR Fk (r2D a b) (r2D a' b') := by
  cases a <;> first | exact RR.bad | skip
  cases b <;> first | exact RR.bad | skip
  rw [h.int, g.int]; exact fk_rfl _
theorem fk_r3 {a a' b b' c c' : PyData} (h : Fk a a') (g : Fk b b') (k : Fk c c') : RR Fk (r3D a b c) (r3D a' b' c') := by
  cases a <;> first | exact RR.bad | skip
  cases b <;> first | exact RR.bad | skip
  cases c <;> first | exact RR.bad | skip
  rw [h.int, g.int, k.int]; exact fk_rfl _
theorem fk_zipA : ∀ {xs ys us vs : List PyData}, FkA xs ys → FkA us vs → FkA (zipD xs us) (zipD ys vs)
  | [], ys, us, vs, h, g => by rw [h.nil_of]; simp only [zipD]; exact .nil
  | a :: as, ys, [], vs, h, g => by
    obtain ⟨b, r, e, _, _⟩ := h.cons_of
    rw [g.nil_of, e]; simp only [zipD]; exact .nil
  | a :: as, ys, c :: cs, vs, h, g => by
    obtain ⟨b, r, e, h1, h2⟩ := h.cons_of
    obtain ⟨d, t, e2, g1, g2⟩ := g.cons_of
    subst e e2
    simp only [zipD]
    exact .cons (.ofTuple (.cons h1 (.cons g1 .nil))) (fk_zipA h2 g2)
theorem fk_zip {a a' b b' : PyData} (h : Fk a a') (g : Fk b b') : RR Fk (zipDD a b) (zipDD a' b') := by
  cases a <;> first | exact RR.bad | skip
  · cases b <;> first | exact RR.bad | skip
    obtain ⟨ys, rfl, q⟩ := h.list
    obtain ⟨zs, rfl, p⟩ := g.list
    exact RR.ok (.ofList (fk_zipA q p))
  · cases b <;> first | exact RR.bad | skip
    obtain ⟨ys, rfl, q⟩ := h.tuple
    obtain ⟨zs, rfl, p⟩ := g.tuple
    exact RR.ok (.ofList (fk_zipA q p))
theorem fk_enum : ∀ (k : Nat) {xs ys : List PyData}, FkA xs ys → FkA (enumFrom k xs) (enumFrom k ys)
  | k, [], ys, h => by rw [h.nil_of]; simp only [enumFrom]; exact .nil
  | k, a :: as, ys, h => by
    obtain ⟨b, r, e, h1, h2⟩ := h.cons_of
    subst e
    simp only [enumFrom]
    exact .cons (.ofTuple (.cons (Fk.refl _) (.cons h1 .nil))) (fk_enum (k + 1) h2)
theorem fk_bool {a a' : PyData} (h : Fk a a') {b : Bool} (e : boolOf a = some b) : boolOf a' = some b := by
  cases a <;> simp only [boolOf, Option.some.injEq] at e <;> try cases e
  · rw [h.bool]; rfl
  · rw [h.int]; rfl

/-! ### frames of which less is known -/
def FkS (s s' : Sl) : Prop := match s with
  | .un => True
  | .sh d => ∃ d', s' = .sh d' ∧ Fk d d'
  | .o1 ds => ∃ ds', s' = .o1 ds' ∧ FkA ds ds'
  | .o2 dss => s' = .o2 dss
structure FkE (ρ ρ' : Env) : Prop where
  len : ρ.length = ρ'.length
  at_ : ∀ (i : Nat) (s : Sl), ρ[i]? = some s → ∃ s', ρ'[i]? = some s' ∧ FkS s s'
theorem FkE.set {ρ ρ' : Env} (h : FkE ρ ρ') (i : Nat) {s s' : Sl} (q : FkS s s') : FkE (ρ.set i s) (ρ'.set i s') where
  len := by rw [List.length_set, List.length_set, h.len]
  at_ := fun j t e => by
    by_cases c : i = j
    · subst c
      by_cases l : i < ρ.length
      · rw [List.getElem?_set_self l] at e
        cases e
        exact ⟨s', List.getElem?_set_self (by rw [← h.len]; exact l), q⟩
      · rw [List.getElem?_eq_none (by rw [List.length_set]; omega)] at e
        cases e
    · rw [List.getElem?_set_ne c] at e ⊢
      exact h.at_ j t e
theorem FkE.wipe {ρ ρ' : Env} (h : FkE ρ ρ') : ∀ vs : List Nat, FkE (wipeE ρ vs) (wipeE ρ' vs)
  | [] => h
  | v :: vs => (h.wipe vs).set v (s := .un) (s' := .un) trivial
theorem FkE.many : ∀ {is : List Nat} {ds ds' : List PyData} {ρ ρ' : Env}, FkE ρ ρ' → FkA ds ds' → FkE (setMany is ds ρ) (setMany is ds' ρ')
  | [], ds, ds', ρ, ρ', h, g => by simpa only [setMany] using h
  | i :: is, [], ds', ρ, ρ', h, g => by rw [g.nil_of]; simpa only [setMany] using h
  | i :: is, d :: ds, ds', ρ, ρ', h, g => by
    obtain ⟨b, r, e, g1, g2⟩ := g.cons_of
    subst e
    simp only [setMany]
    exact FkE.many (h.set i (s := .sh d) (s' := .sh b) ⟨b, rfl, g1⟩) g2
theorem FkE.bindMany {is : List Nat} {ds ds' : List PyData} {ρ ρ' : Env} (h : FkE ρ ρ') (g : FkA ds ds') : (DL.bindMany is ds ρ = none ∧ DL.bindMany is ds' ρ' = none) ∨ ∃ τ τ', DL.bindMany is ds ρ = some τ ∧ DL.bindMany is ds' ρ' = some τ' ∧ FkE τ τ' := by
  rw [bindMany_len, bindMany_len, g.length]
  split
  · exact .inr ⟨_, _, rfl, rfl, h.many g⟩
  · exact .inl ⟨rfl, rfl⟩
theorem FkE.bind {t : Tg} {d d' : PyData} {ρ ρ' : Env} (h : FkE ρ ρ') (g : Fk d d') : DL.bindT t d ρ = none ∨ ∃ τ τ', DL.bindT t d ρ = some τ ∧ DL.bindT t d' ρ' = some τ' ∧ FkE τ τ' := by
  cases t with
  | one i => exact .inr ⟨_, _, rfl, rfl, h.set i (s := .sh d) (s' := .sh d') ⟨d', rfl, g⟩⟩
  | many is =>
    cases d <;> first | exact .inl rfl | skip
    obtain ⟨ys, rfl, q⟩ := g.tuple
    rcases h.bindMany (is := is) q with ⟨e, _⟩ | z
    · exact .inl e
    · exact .inr z
theorem hideAt_length (fz : List Nat) : ∀ (n : Nat) (ρ : Env), (hideAt fz n ρ).length = ρ.length
  | _, [] => rfl
  | n, s :: r => by simp only [hideAt, List.length_cons, hideAt_length fz (n + 1) r]
theorem hideAt_at (fz : List Nat) : ∀ (n : Nat) (ρ : Env) (i : Nat), (hideAt fz n ρ)[i]? = (ρ[i]?).map fun s => match s with
    | .o1 _ => if fz.contains (n + i) then s else .un
    | .o2 _ => if fz.contains (n + i) then s else .un
    | _ => s
  | n, [], i => by simp [hideAt]
  | n, s :: r, 0 => by simp only [hideAt, List.getElem?_cons_zero, Option.map_some, Nat.add_zero]; all_goals (cases s <;> rfl)
  | n, s :: r, i + 1 => by
    simp only [hideAt, List.getElem?_cons_succ]
    rw [hideAt_at fz (n + 1) r i]
    congr 1
    funext s
    rw [show n + 1 + i = n + (i + 1) by omega]
theorem FkE.hide {ρ ρ' : Env} (h : FkE ρ ρ') (fz : List Nat) : FkE (hideAt fz 0 ρ) (hideAt fz 0 ρ') where
  len := by rw [hideAt_length, hideAt_length, h.len]
  at_ := fun i s e => by
    rw [hideAt_at] at e
    cases q : ρ[i]? with
    | none => rw [q] at e; cases e
    | some s0 =>
      rw [q] at e
      obtain ⟨s1, q1, z⟩ := h.at_ i s0 q
      rw [hideAt_at, q1]
      have e := Option.some.inj e
      refine ⟨_, rfl, ?_⟩
      subst e
      cases s0 with
      | un => exact trivial
      | sh d => obtain ⟨d', rfl, g⟩ := z; exact ⟨d', rfl, g⟩
      | o1 ds =>
        obtain ⟨d', rfl, g⟩ := z
        dsimp only
        split
        · exact ⟨d', rfl, g⟩
        · exact trivial
      | o2 ds =>
        have z : s1 = .o2 ds := z
        subst z
        dsimp only
        split
        · exact rfl
        · exact trivial
theorem fk_give {s s' : Sl} (h : FkS s s') : FkS (giveUp s) (giveUp s') := by
  cases s with
  | un => exact trivial
  | sh d => obtain ⟨d', rfl, g⟩ := h; exact ⟨d', rfl, g⟩
  | o1 ds => obtain ⟨d', rfl, g⟩ := h; exact ⟨_, rfl, .ofList g⟩
  | o2 ds =>
    have h : s' = .o2 ds := h
    subst h
    exact ⟨_, rfl, Fk.refl _⟩
theorem FkE.give {ρ ρ' : Env} (h : FkE ρ ρ') (fz : List Nat) : FkE (DL.give fz ρ) (DL.give fz ρ') where
  len := by rw [give_length, give_length, h.len]
  at_ := fun i s e => by
    rw [give_get] at e
    rw [give_get]
    by_cases c : i ∈ fz
    · rw [if_pos c] at e ⊢
      cases q : ρ[i]? with
      | none => rw [q] at e; cases e
      | some s0 =>
        rw [q] at e
        obtain ⟨s1, q1, z⟩ := h.at_ i s0 q
        have e := Option.some.inj e
        subst e
        rw [q1]
        exact ⟨_, rfl, fk_give z⟩
    · rw [if_neg c] at e ⊢; exact h.at_ i s e
section
variable {call call' : Nat → List PyData → R PyData} (hC : ∀ j xs ys, FkA xs ys → RR Fk (call j xs) (call' j ys))
theorem fk_lcGo {t : Tg} {fc fe gc ge : Env → R PyData} (h1 : ∀ ρ ρ', FkE ρ ρ' → RR Fk (fc ρ) (gc ρ')) (h2 : ∀ ρ ρ', FkE ρ ρ' → RR Fk (fe ρ) (ge ρ')) {ρ ρ' : Env} (h : FkE ρ ρ') : ∀ {xs ys : List PyData}, FkA xs ys → RR FkA (lcGo t fc fe ρ xs) (lcGo t gc ge ρ' ys)
  | [], ys, g => by rw [g.nil_of]; exact RR.ok .nil
  | d :: ds, ys, g => by
    obtain ⟨b, r, e, g1, g2⟩ := g.cons_of
    subst e
    unfold lcGo
    rcases h.bind (t := t) g1 with e1 | ⟨τ, τ', e1, e2, a⟩
    · rw [e1]; exact RR.bad
    · rw [e1, e2]
      dsimp only
      have q := RR.bind (h1 _ _ a) fun x y z => fk_truth z
      have ih := fk_lcGo (t := t) h1 h2 h g2
      cases e3 : (fc τ).bind truth with
      | ok b2 =>
        rw [e3] at q
        obtain ⟨b3, e4, z⟩ := q
        subst z
        rw [e4]
        cases b2 with
        | true =>
          dsimp only
          have q2 := h2 _ _ a
          cases e5 : fe τ with
          | ok y =>
            rw [e5] at q2
            obtain ⟨y', e6, z⟩ := q2
            rw [e6]
            dsimp only
            cases e7 : lcGo t fc fe ρ ds with
            | ok us =>
              rw [e7] at ih
              obtain ⟨vs, e8, z2⟩ := ih
              rw [e8]
              exact RR.ok (.cons z z2)
            | ex c => exact RR.bad
            | bad => exact RR.bad
          | ex c => exact RR.bad
          | bad => exact RR.bad
        | false => exact ih
      | ex c => exact RR.bad
      | bad => exact RR.bad
theorem fk_aaGo {w : Bool} {t : Tg} {fe ge : Env → R PyData} (h2 : ∀ ρ ρ', FkE ρ ρ' → RR Fk (fe ρ) (ge ρ')) {ρ ρ' : Env} (h : FkE ρ ρ') : ∀ {xs ys : List PyData}, FkA xs ys → RR Eq (aaGo w t fe ρ xs) (aaGo w t ge ρ' ys)
  | [], ys, g => by rw [g.nil_of]; exact RR.ok rfl
  | d :: ds, ys, g => by
    obtain ⟨b, r, e, g1, g2⟩ := g.cons_of
    subst e
    unfold aaGo
    rcases h.bind (t := t) g1 with e1 | ⟨τ, τ', e1, e2, a⟩
    · rw [e1]; exact RR.bad
    · rw [e1, e2]
      dsimp only
      have ih := fk_aaGo (w := w) (t := t) h2 h g2
      have q2 := h2 _ _ a
      cases e5 : fe τ with
      | ok y =>
        rw [e5] at q2
        obtain ⟨y', e6, z⟩ := q2
        rw [e6]
        dsimp only
        cases e7 : boolOf y with
        | none => exact RR.bad
        | some b2 =>
          rw [fk_bool z e7]
          dsimp only
          split
          · exact ih
          · exact RR.eq _
      | ex c => exact RR.bad
      | bad => exact RR.bad
include hC in
theorem fk_ev (e : IE) : ∀ ρ ρ', FkE ρ ρ' → RR Fk (ev call e ρ) (ev call' e ρ') := by
  induction e with
  | var j =>
    intro ρ ρ' a
    simp only [ev]
    cases e : ρ[j]? with
    | none => exact RR.bad
    | some s =>
      obtain ⟨s', e', z⟩ := a.at_ j s e
      rw [e']
      cases s with
      | un => exact RR.bad
      | sh d => obtain ⟨d', rfl, g⟩ := z; exact RR.ok g
      | o1 d => obtain ⟨d', rfl, g⟩ := z; exact RR.ok (.ofList g)
      | o2 d =>
        have z : s' = .o2 d := z
        subst z
        exact fk_rfl _
  | int i => intro ρ ρ' _; simp only [ev]; exact fk_rfl _
  | bl i => intro ρ ρ' _; simp only [ev]; exact fk_rfl _
  | non => intro ρ ρ' _; simp only [ev]; exact fk_rfl _
  | str i => intro ρ ρ' _; simp only [ev]; exact fk_rfl _
  | glob i d => intro ρ ρ' _; simp only [ev]; exact fk_rfl _
  | enil => intro ρ ρ' _; simp only [ev]; exact fk_rfl _
  | nopart => intro ρ ρ' _; simp only [ev]; exact fk_rfl _
  | bin o x y ihx ihy => intro ρ ρ' a; simp only [ev]; exact RR.bind (ihx _ _ a) fun x x' hx => RR.bind (ihy _ _ a) fun y y' hy => fk_bin o hx hy
  | neg x ih => intro ρ ρ' a; simp only [ev]; exact RR.bind (ih _ _ a) fun x x' hx => fk_neg hx
  | cmp o x y ihx ihy => intro ρ ρ' a; simp only [ev]; exact RR.bind (ihx _ _ a) fun x x' hx => RR.bind (ihy _ _ a) fun y y' hy => RR.bind (fk_cmp o hx hy) fun k k' e => by subst e; exact fk_rfl _
  | chain o o' x y z ihx ihy ihz =>
    intro ρ ρ' a
    simp only [ev]
    refine RR.bind (ihx _ _ a) fun x x' hx => RR.bind (ihy _ _ a) fun y y' hy => RR.bind (fk_cmp o hx hy) fun k k' e => ?_
    subst e
    exact RR.ite Iff.rfl (RR.bind (ihz _ _ a) fun z z' hz => RR.bind (fk_cmp o' hy hz) fun k k' e => by subst e; exact fk_rfl _) (fk_rfl _)
  | not x ih => intro ρ ρ' a; simp only [ev]; exact RR.bind (ih _ _ a) fun x x' hx => RR.bind (fk_truth hx) fun k k' e => by subst e; exact fk_rfl _
  | and x y ihx ihy => intro ρ ρ' a; simp only [ev]; exact RR.bind (ihx _ _ a) fun x x' hx => RR.bind (fk_truth hx) fun k k' e => by subst e; exact RR.ite Iff.rfl (ihy _ _ a) (RR.ok hx)
  | or x y ihx ihy => intro ρ ρ' a; simp only [ev]; exact RR.bind (ihx _ _ a) fun x x' hx => RR.bind (fk_truth hx) fun k k' e => by subst e; exact RR.ite Iff.rfl (RR.ok hx) (ihy _ _ a)
  | one x ih => intro ρ ρ' a; simp only [ev]; exact ih _ _ a
  | ite c x y ihc ihx ihy => intro ρ ρ' a; simp only [ev]; exact RR.bind (ihc _ _ a) fun x x' hx => RR.bind (fk_truth hx) fun k k' e => by subst e; exact RR.ite Iff.rfl (ihx _ _ a) (ihy _ _ a)
  | tup x ih => intro ρ ρ' a; simp only [ev]; exact ih _ _ a
  | lst x ih => intro ρ ρ' a; simp only [ev]; exact RR.bind (ih _ _ a) fun x x' hx => fk_lst hx
  | sub x y ihx ihy => intro ρ ρ' a; simp only [ev]; exact RR.bind (ihx _ _ a) fun x x' hx => RR.bind (ihy _ _ a) fun y y' hy => fk_sub hx hy
  | slice x y z ihx ihy ihz =>
    intro ρ ρ' a
    simp only [ev]
    exact RR.bind (ihx _ _ a) fun x x' hx => RR.bind (ihy _ _ a) fun y y' hy => RR.bind (fk_part hy) fun l l' e => by
      subst e
      exact RR.bind (ihz _ _ a) fun z z' hz => RR.bind (fk_part hz) fun u u' e => by subst e; exact fk_slice _ _ hx
  | rev x ih => intro ρ ρ' a; simp only [ev]; exact RR.bind (ih _ _ a) fun x x' hx => fk_rev hx
  | call j x ih => intro ρ ρ' a; simp only [ev]; exact RR.bind (ih _ _ a) fun x x' hx => fk_unT (hC j) hx
  | blt j x ih => intro ρ ρ' a; simp only [ev]; exact RR.bind (ih _ _ a) fun x x' hx => fk_unT (fun xs ys => fk_blt j) hx
  | isi x j ih => intro ρ ρ' a; simp only [ev]; exact RR.bind (ih _ _ a) fun x x' hx => RR.bind (fk_isi j hx) fun k k' e => by subst e; exact fk_rfl _
  | lc own own' t it c e ihi ihc ihe =>
    intro ρ ρ' a
    simp only [ev]
    unfold lcD
    refine RR.bind (ihi _ _ a) fun x x' hx => ?_
    cases x <;> first | exact RR.bad | skip
    obtain ⟨ys, rfl, q⟩ := hx.list
    dsimp only
    refine RR.ite (by rw [q.length]) ?_ RR.bad
    have z := fk_lcGo (t := t) ihc ihe (a.wipe own) q
    rename_i xs
    cases e1 : lcGo t (ev call c) (ev call e) (wipeE ρ own) xs with
    | ok us =>
      rw [e1] at z
      obtain ⟨vs, e2, z⟩ := z
      rw [e2]
      exact RR.ok (.ofList z)
    | ex c => exact RR.bad
    | bad => exact RR.bad
  | econs x y ihx ihy => intro ρ ρ' a; simp only [ev]; exact RR.bind (ihx _ _ a) fun x x' hx => RR.bind (ihy _ _ a) fun y y' hy => fk_cons hx hy
  | part x ih => intro ρ ρ' a; simp only [ev]; exact RR.bind (ih _ _ a) fun x x' hx => fk_num hx
  | iseq x ih => intro ρ ρ' a; simp only [ev]; exact RR.bind (ih _ _ a) fun x x' hx => RR.bind (fk_seq hx) fun u u' g => RR.ok (.ofList g)
  | ir1 x ih => intro ρ ρ' a; simp only [ev]; exact RR.bind (ih _ _ a) fun x x' hx => fk_r1 hx
  | ir2 x y ihx ihy => intro ρ ρ' a; simp only [ev]; exact RR.bind (ihx _ _ a) fun x x' hx => RR.bind (ihy _ _ a) fun y y' hy => fk_r2 hx hy
  | ienum x ih => intro ρ ρ' a; simp only [ev]; exact RR.bind (ih _ _ a) fun x x' hx => RR.bind (fk_seq hx) fun u u' g => RR.ok (.ofList (fk_enum 0 g))
  | izip x y ihx ihy => intro ρ ρ' a; simp only [ev]; exact RR.bind (ihx _ _ a) fun x x' hx => RR.bind (ihy _ _ a) fun y y' hy => fk_zip hx hy
  | irev x ih => intro ρ ρ' a; simp only [ev]; exact RR.bind (ih _ _ a) fun x x' hx => RR.bind (fk_seq hx) fun u u' g => RR.ok (.ofList g.reverse)
  | ir3 x y z ihx ihy ihz => intro ρ ρ' a; simp only [ev]; exact RR.bind (ihx _ _ a) fun x x' hx => RR.bind (ihy _ _ a) fun y y' hy => RR.bind (ihz _ _ a) fun z z' hz => fk_r3 hx hy hz
  | gen w own own' t it e ihi ihe =>
    intro ρ ρ' a
    simp only [ev]
    unfold aaD
    refine RR.bind (ihi _ _ a) fun x x' hx => ?_
    cases x <;> first | exact RR.bad | skip
    obtain ⟨ys, rfl, q⟩ := hx.list
    dsimp only
    have z := fk_aaGo (w := w) (t := t) ihe (a.wipe own) q
    rename_i xs
    cases e1 : aaGo w t (ev call e) (wipeE ρ own) xs with
    | ok us =>
      rw [e1] at z
      obtain ⟨vs, e2, z⟩ := z
      subst z
      rw [e2]
      exact fk_rfl _
    | ex c => exact RR.bad
    | bad => exact RR.bad
end
end DL
namespace DL
open PySem PySem.Spec PyProof.Rows L2
/-! ### statements over frames of which less is known -/
def FkF (a b : Fl) : Prop := match a with
  | .next ρ => ∃ ρ', b = .next ρ' ∧ FkE ρ ρ'
  | .ret d => ∃ d', b = .ret d' ∧ Fk d d'
theorem RR.next {r r' : R Fl} {f g : Env → R Fl} (h : RR FkF r r') (hf : ∀ ρ ρ', FkE ρ ρ' → RR FkF (f ρ) (g ρ')) : RR FkF (R.next r f) (R.next r' g) := by
  refine RR.bind h fun x x' q => ?_
  cases x with
  | next ρ => obtain ⟨ρ', rfl, a⟩ := q; exact hf _ _ a
  | ret d => obtain ⟨d', rfl, a⟩ := q; exact RR.ok ⟨d', rfl, a⟩
theorem RR.noEx {α β : Type} {P : α → β → Prop} {r : R α} {r' : R β} (h : RR P r r') : RR P r.noEx r'.noEx := by
  cases r with
  | ok a => obtain ⟨b, e, p⟩ := h; subst e; exact RR.ok p
  | ex c => exact RR.bad
  | bad => exact RR.bad
theorem pureA {xs ys : List PyData} (h : FkA xs ys) (p : pures xs = true) : ys = xs := FkA.known xs ys (knowns_of_pure xs p) h
theorem pure1 {x y : PyData} (h : Fk x y) (p : pure? x = true) : y = x := Fk.known x y (known_of_pure x p) h
section
variable {call call' : Nat → List PyData → R PyData} (hC : ∀ j xs ys, FkA xs ys → RR Fk (call j xs) (call' j ys)) {mt : Nat → Nat → Option Bool}
theorem fk_forGo {t : Tg} {fb gb : Env → R Fl} (hb : ∀ ρ ρ', FkE ρ ρ' → RR FkF (fb ρ) (gb ρ')) : ∀ {xs ys : List PyData}, FkA xs ys → ∀ {ρ ρ' : Env}, FkE ρ ρ' → RR FkF (forGo t fb xs ρ) (forGo t gb ys ρ')
  | [], ys, g, ρ, ρ', a => by rw [g.nil_of]; exact RR.ok ⟨ρ', rfl, a⟩
  | d :: ds, ys, g, ρ, ρ', a => by
    obtain ⟨b, r, e, g1, g2⟩ := g.cons_of
    subst e
    unfold forGo
    rcases a.bind (t := t) g1 with e1 | ⟨τ, τ', e1, e2, a2⟩
    · rw [e1]; exact RR.bad
    · rw [e1, e2]
      exact RR.next (hb _ _ a2) fun σ σ' a3 => fk_forGo hb g2 a3
theorem fk_whileGo {fc gc : Env → R PyData} {fb gb : Env → R Fl} (hc : ∀ ρ ρ', FkE ρ ρ' → RR Fk (fc ρ) (gc ρ')) (hb : ∀ ρ ρ', FkE ρ ρ' → RR FkF (fb ρ) (gb ρ')) : ∀ (n : Nat) {ρ ρ' : Env}, FkE ρ ρ' → RR FkF (whileGo fc fb n ρ) (whileGo gc gb n ρ')
  | 0, ρ, ρ', a => RR.bad
  | n + 1, ρ, ρ', a => by
    unfold whileGo
    refine RR.bind (RR.bind (hc _ _ a) fun x x' q => fk_truth q) fun k k' e => ?_
    subst e
    exact RR.ite Iff.rfl (RR.next (hb _ _ a) fun σ σ' a3 => fk_whileGo hc hb n a3) (RR.ok ⟨_, rfl, a⟩)
include hC in
theorem fk_exq (b : IQ) : ∀ ρ ρ', FkE ρ ρ' → RR (fun _ _ => True) (exq call b ρ) (exq call' b ρ') := by
  induction b with
  | done => intro ρ ρ' a; simp only [exq]; exact RR.ok trivial
  | expr e k ih => intro ρ ρ' a; simp only [exq]; exact RR.bind (fk_ev hC e _ _ a) fun _ _ _ => ih _ _ a
  | ite c x y k ihx ihy ihk =>
    intro ρ ρ' a
    simp only [exq]
    refine RR.bind (RR.bind (fk_ev hC c _ _ a) fun x x' q => fk_truth q) fun k k' e => ?_
    subst e
    exact RR.bind (RR.ite Iff.rfl (ihx _ _ a) (ihy _ _ a)) fun _ _ _ => ihk _ _ a
def FkO (a b : Option PyData) : Prop := match a with
  | none => b = none
  | some d => ∃ d', b = some d' ∧ Fk d d'
include hC in
theorem fk_exh (hs : Hs) (c : Nat) : ∀ ρ ρ', FkE ρ ρ' → RR FkO (exh call mt hs c ρ) (exh call' mt hs c ρ') := by
  induction hs with
  | nil => intro ρ ρ' a; simp only [exh]; exact rfl
  | ret c' e r ih =>
    intro ρ ρ' a
    simp only [exh]
    cases mt c c' with
    | none => exact RR.bad
    | some b =>
      cases b with
      | true => exact RR.bind (fk_ev hC e _ _ a).noEx fun d d' q => RR.ok ⟨d', rfl, q⟩
      | false => exact ih _ _ a
  | pas c' r ih =>
    intro ρ ρ' a
    simp only [exh]
    cases mt c c' with
    | none => exact RR.bad
    | some b =>
      cases b with
      | true => exact RR.ok rfl
      | false => exact ih _ _ a
theorem FkE.o1 {ρ ρ' : Env} {i : Nat} (a : FkE ρ ρ') {ds : List PyData} (e : ρ[i]? = some (.o1 ds)) : ∃ ds', ρ'[i]? = some (.o1 ds') ∧ FkA ds ds' := by
  obtain ⟨s', e', z⟩ := a.at_ i _ e
  obtain ⟨ds', rfl, q⟩ := z
  exact ⟨ds', e', q⟩
theorem fk_slO (o : Bool) {d d' : PyData} (q : Fk d d') : RR FkS (slO o d) (slO o d') := by
  cases o with
  | true =>
    cases d <;> first | exact RR.bad | skip
    obtain ⟨ys, rfl, g⟩ := q.list
    rename_i ds
    by_cases p : pures ds = true
    · rw [pureA g p]
      exact RR.refl (fun s => by cases s <;> first | trivial | exact ⟨_, rfl, Fk.refl _⟩ | exact ⟨_, rfl, FkA.refl _⟩ | rfl) _
    · have e : slO true (.list ds) = .bad := by
        unfold slO
        rw [if_pos rfl]
        exact if_neg p
      rw [e]
      exact RR.bad
  | false =>
    by_cases p : pure? d = true
    · rw [pure1 q p]
      exact RR.refl (fun s => by cases s <;> first | trivial | exact ⟨_, rfl, Fk.refl _⟩ | exact ⟨_, rfl, FkA.refl _⟩ | rfl) _
    · have e : slO false d = .bad := by
        unfold slO
        rw [if_neg Bool.false_ne_true, if_neg p]
      rw [e]
      exact RR.bad
include hC in
theorem fk_exec (st : IS) : ∀ ρ ρ', FkE ρ ρ' → RR FkF (exec call mt st ρ) (exec call' mt st ρ') := by
  induction st with
  | done => intro ρ ρ' a; simp only [exec]; exact RR.ok ⟨ρ', rfl, a⟩
  | set m i e k ih =>
    intro ρ ρ' a
    simp only [exec]
    cases m with
    | p =>
      refine RR.bind (fk_ev hC e _ _ a) fun d d' q => ?_
      by_cases p : pure? d = true
      · rw [pure1 q p, if_pos p, if_pos p]
        exact ih _ _ (a.set i (s := .sh d) (s' := .sh d) ⟨d, rfl, Fk.refl d⟩)
      · rw [if_neg p]; exact RR.bad
    | f =>
      refine RR.bind (fk_ev hC e _ _ a) fun d d' q => ?_
      cases d <;> first | exact RR.bad | skip
      obtain ⟨ys, rfl, g⟩ := q.list
      rename_i ds
      unfold setF
      dsimp only
      by_cases p : (decide (i < ρ.length) && pures ds) = true
      · have p2 := (Bool.and_eq_true_iff.mp p).2
        rw [pureA g p2, ← a.len, if_pos p, if_pos p]
        exact ih _ _ (a.set i (s := .o1 ds) (s' := .o1 ds) ⟨ds, rfl, FkA.refl ds⟩)
      · rw [if_neg p]; exact RR.bad
    | z fz =>
      exact RR.bind (fk_ev hC e _ _ (a.hide fz)) fun d d' q => ih _ _ ((a.give fz).set i (s := .sh d) (s' := .sh d') ⟨d', rfl, q⟩)
    | fz fz =>
      refine RR.bind (fk_ev hC e _ _ (a.hide fz)) fun d d' q => ?_
      cases d <;> first | exact RR.bad | skip
      obtain ⟨ys, rfl, g⟩ := q.list
      rename_i ds
      unfold setFz
      exact RR.ite (by rw [a.len]) (ih _ _ ((a.give fz).set i (s := .o1 ds) (s' := .o1 ys) ⟨ys, rfl, g⟩)) RR.bad
  | par m is es k ih =>
    intro ρ ρ' a
    simp only [exec]
    cases m with
    | none =>
      refine RR.bind (fk_ev hC es _ _ a) fun d d' q => ?_
      cases d <;> first | exact RR.bad | skip
      obtain ⟨ys, rfl, g⟩ := q.tuple
      rename_i ds
      unfold parD
      dsimp only
      by_cases p : (pures ds && decide (ds.length = is.length)) = true
      · have p2 := (Bool.and_eq_true_iff.mp p).1
        rw [pureA g p2, if_pos p, if_pos p]
        exact ih _ _ (a.many (FkA.refl ds))
      · rw [if_neg p]; exact RR.bad
    | some fz =>
      refine RR.bind (fk_ev hC es _ _ (a.hide fz)) fun d d' q => ?_
      cases d <;> first | exact RR.bad | skip
      obtain ⟨ys, rfl, g⟩ := q.tuple
      rename_i ds
      unfold parZ
      exact RR.ite (by rw [g.length]) (ih _ _ ((a.give fz).many g)) RR.bad
  | par2 o1 o2 i j e1 e2 k ih =>
    intro ρ ρ' a
    simp only [exec]
    refine RR.bind (RR.bind (fk_ev hC e1 _ _ a) fun d d' q => fk_slO o1 q) fun s1 s1' q1 => RR.bind (RR.bind (fk_ev hC e2 _ _ a) fun d d' q => fk_slO o2 q) fun s2 s2' q2 => ?_
    unfold par2D
    exact RR.ite (by rw [a.len]) (ih _ _ ((a.set i q1).set j q2)) RR.bad
  | unp m t e k ih =>
    intro ρ ρ' a
    simp only [exec]
    cases m with
    | none =>
      refine RR.bind (fk_ev hC e _ _ a) fun d d' q => ?_
      unfold unpD
      by_cases p : pure? d = true
      · rw [pure1 q p, if_pos p, if_pos p]
        rcases a.bind (t := t) (Fk.refl d) with e1 | ⟨τ, τ', e1, e2, a2⟩
        · rw [e1]; exact RR.bad
        · rw [e1, e2]; exact ih _ _ a2
      · rw [if_neg p]; exact RR.bad
    | some fz =>
      refine RR.bind (fk_ev hC e _ _ (a.hide fz)) fun d d' q => ?_
      unfold unpZ
      rcases (a.give fz).bind (t := t) q with e1 | ⟨τ, τ', e1, e2, a2⟩
      · rw [e1]; exact RR.bad
      · rw [e1, e2]; exact ih _ _ a2
  | app i e k ih =>
    intro ρ ρ' a
    simp only [exec]
    cases e0 : ρ[i]? with
    | none => exact RR.bad
    | some s =>
      cases s <;> first | exact RR.bad | skip
      obtain ⟨ds', e1, g⟩ := a.o1 e0
      rw [e1]
      refine RR.bind (fk_ev hC e _ _ a) fun d d' q => ?_
      unfold appD
      by_cases p : pure? d = true
      · rw [pure1 q p, if_pos p, if_pos p, e0, e1]
        exact RR.ite (by rw [g.length]) (ih _ _ (a.set i (s := .o1 _) (s' := .o1 _) ⟨_, rfl, g.append (FkA.refl [d])⟩)) RR.bad
      · rw [if_neg p]; exact RR.bad
  | sto i ix e k ih =>
    intro ρ ρ' a
    simp only [exec]
    cases e0 : ρ[i]? with
    | none => exact RR.bad
    | some s =>
      cases s <;> first | exact RR.bad | skip
      obtain ⟨ds', e1, g⟩ := a.o1 e0
      rw [e1]
      refine RR.bind (fk_ev hC e _ _ a) fun d d' q => ?_
      by_cases p : pure? d = true
      · rw [pure1 q p, if_pos p, if_pos p]
        refine RR.bind (fk_ev hC ix _ _ a) fun j j' qj => ?_
        cases j <;> first | exact RR.bad | skip
        rw [qj.int]
        unfold stoD
        rw [e0, e1]
        dsimp only
        rw [g.length]
        split
        · exact ih _ _ (a.set i (s := .o1 _) (s' := .o1 _) ⟨_, rfl, g.set _ (Fk.refl d)⟩)
        · exact RR.bad
      · rw [if_neg p]; exact RR.bad
  | aug o i e k ih =>
    intro ρ ρ' a
    simp only [exec]
    cases e0 : ρ[i]? with
    | none => exact RR.bad
    | some s =>
      cases s with
      | sh d0 =>
        obtain ⟨s', e1, z⟩ := a.at_ i _ e0
        obtain ⟨d1, rfl, z⟩ := z
        cases d0 <;> first | exact RR.bad | skip
        rw [e1, z.int]
        refine RR.bind (fk_ev hC e _ _ a) fun d d' q => ?_
        cases d <;> first | exact RR.bad | skip
        rw [q.int]
        unfold augD
        exact ih _ _ (a.set i (s := .sh _) (s' := .sh _) ⟨_, rfl, Fk.refl _⟩)
      | _ => exact RR.bad
  | expr e k ih => intro ρ ρ' a; simp only [exec]; exact RR.bind (fk_ev hC e _ _ a) fun _ _ _ => ih _ _ a
  | ret e => intro ρ ρ' a; simp only [exec]; exact RR.bind (fk_ev hC e _ _ a) fun d d' q => RR.ok ⟨d', rfl, q⟩
  | ite c x y k ihx ihy ihk =>
    intro ρ ρ' a
    simp only [exec]
    refine RR.bind (RR.bind (fk_ev hC c _ _ a) fun x x' q => fk_truth q) fun k k' e => ?_
    subst e
    exact RR.next (RR.ite Iff.rfl (ihx _ _ a) (ihy _ _ a)) ihk
  | for_ t fz it x k ihx ihk =>
    intro ρ ρ' a
    simp only [exec]
    refine RR.bind (fk_ev hC it _ _ (a.hide fz)) fun d d' q => ?_
    cases d <;> first | exact RR.bad | skip
    obtain ⟨ys, rfl, g⟩ := q.list
    unfold forD
    exact RR.next (fk_forGo ihx g (a.give fz)) ihk
  | while_ n c x k ihx ihk =>
    intro ρ ρ' a
    simp only [exec]
    exact RR.next (fk_whileGo (fk_ev hC c) ihx n a) ihk
  | raise c => intro ρ ρ' a; simp only [exec]; exact rfl
  | try_ x h k ih =>
    intro ρ ρ' a
    simp only [exec]
    have q := fk_exq hC x _ _ a
    unfold tryD
    cases e : exq call x ρ with
    | ok u =>
      rw [e] at q
      obtain ⟨u', e', _⟩ := q
      rw [e']
      exact ih _ _ a
    | ex c =>
      rw [e] at q
      have q : exq call' x ρ' = .ex c := q
      rw [q]
      refine RR.bind (fk_exh hC h c _ _ a) fun o o' z => ?_
      cases o with
      | none =>
        have z : o' = none := z
        subst z
        exact ih _ _ a
      | some d => obtain ⟨d', rfl, g⟩ := z; exact RR.ok ⟨d', rfl, g⟩
    | bad => exact RR.bad
  | pas k ih => intro ρ ρ' a; simp only [exec]; exact ih _ _ a
  | fgt fz k ih => intro ρ ρ' a; simp only [exec]; exact ih _ _ (a.wipe fz)
theorem fk_fin {r r' : R Fl} (h : RR FkF r r') : RR Fk (fin r) (fin r') := by
  cases r with
  | ok x =>
    obtain ⟨x', rfl, q⟩ := h
    cases x with
    | next ρ => obtain ⟨ρ', rfl, _⟩ := q; exact RR.ok (Fk.refl _)
    | ret d => obtain ⟨d', rfl, g⟩ := q; exact RR.ok g
  | ex c => have h : r' = .ex c := h; subst h; exact rfl
  | bad => exact RR.bad
theorem fkE_of {n : Nat} : ∀ {xs ys : List PyData}, FkA xs ys → FkE (envOf n xs) (envOf n ys) := by
  intro xs ys h
  refine ⟨by unfold envOf; rw [List.length_append, List.length_append, List.length_map, List.length_map, h.length], fun i s e => ?_⟩
  unfold envOf at e ⊢
  by_cases c : i < xs.length
  · rw [List.getElem?_append_left (by rw [List.length_map]; exact c), List.getElem?_map, List.getElem?_eq_getElem c] at e
    rw [List.getElem?_append_left (by rw [List.length_map, h.length]; exact c), List.getElem?_map]
    obtain ⟨b, e1, q⟩ := h.get (List.getElem?_eq_getElem c)
    rw [e1]
    cases e
    exact ⟨_, rfl, b, rfl, q⟩
  · rw [List.getElem?_append_right (by rw [List.length_map]; omega)] at e
    rw [List.getElem?_append_right (by rw [List.length_map, h.length]; omega)]
    rw [List.length_map] at e ⊢
    rw [h.length]
    refine ⟨s, e, ?_⟩
    rw [List.getElem?_replicate] at e
    split at e
    · cases e; exact trivial
    · cases e
end
end DL
namespace DL
open PySem PySem.Spec PyProof.Rows L2
/-! ### the laws' draws: a cell of the script, numbers of it -/
def cellIR : IS :=
  .ite (.cmp .lt (.var 1) (.blt .len (.econs (.var 0) (.enil))))
    (.ret (.sub (.var 0) (.var 1)))
    (.done)
  (.ret (.int 0))
def turnIR : IS :=
    .set (.z []) 5 (.bin .mod (.blt .int (.econs (.bin .add (.bin .add (.bin .mul (.var 0) (.int 48271)) (.bin .mul (.var 4) (.int 69621))) (.int 1)) (.enil))) (.int 2147483647))
    (.ite (.cmp .ge (.var 0) (.bin .pow (.int 10) (.int 18)))
      (.app 2 (.bin .mod (.var 3) (.int 1009))
      (.set (.z []) 3 (.bin .fdiv (.var 3) (.int 1009))
      (.done)))
      (.app 2 (.bin .fdiv (.bin .mod (.blt .int (.econs (.bin .add (.bin .mul (.var 5) (.var 5)) (.bin .mul (.var 5) (.int 40692))) (.enil))) (.int 2147483399)) (.int 7))
      (.done))
    (.done))
def drawsIR : IS :=
  .set (.f) 2 (.lst (.enil))
  (.set (.z []) 3 (.blt .int (.econs (.var 0) (.enil)))
  (.for_ (.one 4) [] (.ir1 (.var 1)) turnIR
  (.ret (.var 2))))
section
variable (call : Nat → List PyData → R PyData) (mt : Nat → Nat → Option Bool)
theorem cell_ok {ns : List Int} {k : Nat} : ∃ c : Int, exec call mt cellIR (envOf 2 [locked (ns.map PyData.int), .int k]) = .ok (.ret (.int c)) := by
  by_cases h : k < ns.length
  · refine ⟨ns[k], ?_⟩
    have e : (ns.map PyData.int)[k]? = some (.int ns[k]) := by rw [List.getElem?_map, List.getElem?_eq_getElem h]; rfl
    simp [cellIR, exec, ev, envOf, locked, Sl.val, R.bind, consD, unT, bltD, cmpD, truth, R.next, subD, atD, e, h, Nat.not_le.mpr h]
  · refine ⟨0, ?_⟩
    simp [cellIR, exec, ev, envOf, locked, Sl.val, R.bind, consD, unT, bltD, cmpD, truth, R.next, subD, h, Nat.not_lt.mp h]
theorem turn_ok {c cnt rest k : Int} {acc : List Int} {s5 : Sl} (hl : acc.length < 1000) (h5 : s5 = .un ∨ ∃ d, s5 = .sh d) : ∃ (x rest' : Int) (d : PyData), exec call mt turnIR [.sh (.int c), .sh (.int cnt), .o1 (acc.map PyData.int), .sh (.int rest), .sh (.int k), s5] =
    .ok (.next [.sh (.int c), .sh (.int cnt), .o1 ((acc ++ [x]).map PyData.int), .sh (.int rest'), .sh (.int k), .sh d]) := by
  have m1 : ∀ i : Int, mulOk i 48271 = true := fun i => by simp [mulOk, show smallI 48271 = true by decide]
  have m2 : ∀ i : Int, mulOk i 69621 = true := fun i => by simp [mulOk, show smallI 69621 = true by decide]
  have m3 : ∀ i : Int, mulOk i 40692 = true := fun i => by simp [mulOk, show smallI 40692 = true by decide]
  have sm : ∀ i : Int, mulOk (i % 2147483647) (i % 2147483647) = true := fun i => by
    have h1 := Int.emod_nonneg i (show (2147483647 : Int) ≠ 0 by decide)
    have h2 := Int.emod_lt_of_pos i (show (0 : Int) < 2147483647 by decide)
    have : smallI (i % 2147483647) = true := by
      unfold smallI
      rw [Nat.blt_eq]
      omega
    simp [mulOk, this]
  have hb : acc.length < big := Nat.lt_trans hl (by decide)
  have l1009 : Nat.log2 1009 < 9000 := by decide
  have l7 : Nat.log2 7 < 9000 := by decide
  by_cases q : 1000000000000000000 ≤ c
  · refine ⟨rest % 1009, rest / 1009, .int ((c * 48271 + k * 69621 + 1) % 2147483647), ?_⟩
    rcases h5 with rfl | ⟨d, rfl⟩ <;>
    simp [turnIR, exec, ev, Sl.val, R.bind, consD, unT, bltD, cmpD, truth, R.next, binD, m1, m2, m3, sm, hideAt, give, appD, pure?, hb, q, l1009, l7]
  · refine ⟨((c * 48271 + k * 69621 + 1) % 2147483647 * ((c * 48271 + k * 69621 + 1) % 2147483647) + (c * 48271 + k * 69621 + 1) % 2147483647 * 40692) % 2147483399 / 7, rest, .int ((c * 48271 + k * 69621 + 1) % 2147483647), ?_⟩
    rcases h5 with rfl | ⟨d, rfl⟩ <;>
    simp [turnIR, exec, ev, Sl.val, R.bind, consD, unT, bltD, cmpD, truth, R.next, binD, m1, m2, m3, sm, hideAt, give, appD, pure?, hb, q, l1009, l7]
theorem turns_ok {c cnt : Int} : ∀ (n : Nat) (lo : Nat) (acc : List Int) (rest : Int) (s4 s5 : Sl), acc.length + n ≤ 1000 → (s5 = .un ∨ ∃ d, s5 = .sh d) → ∃ (bs : List Int) (rest' : Int) (t4 t5 : Sl), bs.length = acc.length + n ∧
    forGo (.one 4) (exec call mt turnIR) ((List.range' lo n).map fun k : Nat => PyData.int k) [.sh (.int c), .sh (.int cnt), .o1 (acc.map PyData.int), .sh (.int rest), s4, s5] =
      .ok (.next [.sh (.int c), .sh (.int cnt), .o1 (bs.map PyData.int), .sh (.int rest'), t4, t5])
  | 0, lo, acc, rest, s4, s5, _, _ => ⟨acc, rest, s4, s5, rfl, rfl⟩
  | n + 1, lo, acc, rest, s4, s5, hl, h5 => by
    obtain ⟨x, rest', d, e⟩ := turn_ok call mt (c := c) (cnt := cnt) (rest := rest) (k := lo) (acc := acc) (s5 := s5) (by omega) h5
    obtain ⟨bs, r2, t4, t5, h1, h2⟩ := turns_ok n (lo + 1) (acc ++ [x]) rest' (.sh (.int lo)) (.sh d) (by rw [List.length_append, List.length_singleton]; omega) (.inr ⟨d, rfl⟩)
    refine ⟨bs, r2, t4, t5, by rw [h1, List.length_append, List.length_singleton]; omega, ?_⟩
    rw [List.range'_succ, List.map_cons]
    unfold forGo
    show (exec call mt turnIR [.sh (.int c), .sh (.int cnt), .o1 (acc.map PyData.int), .sh (.int rest), .sh (.int lo), s5]).bind _ = _
    rw [e]
    exact h2
theorem draws_ok {c : Int} {n : Nat} (hn : n ≤ 1000) : ∃ bs : List Int, bs.length = n ∧ exec call mt drawsIR (envOf 6 [.int c, .int n]) = .ok (.ret (.list (bs.map PyData.int))) := by
  obtain ⟨bs, r, t4, t5, h1, h2⟩ := turns_ok call mt (c := c) (cnt := n) n 0 [] c .un .un (by simpa using hn) (.inl rfl)
  have hb : bnd (n : Int) = true := by
    unfold bnd
    rw [Nat.blt_eq]
    omega
  have hr : rng 0 n = (List.range' 0 n).map fun k : Nat => PyData.int k := by
    unfold rng
    rw [List.range_eq_range']
    apply List.map_congr_left
    intro k _
    simp
  refine ⟨bs, by simpa using h1, ?_⟩
  simp [drawsIR, exec, ev, envOf, Sl.val, R.bind, consD, unT, bltD, hideAt, give, setF, pures, lstD, r1D, hb, forD, R.next, hr]
  rw [List.map_nil] at h2
  rw [h2]
  simp
end

/-! ### the law's end -/
section
variable {P : Program} {w : World} {K : PySem.W.Frag} {h : Heap} {mg : Str → Option Value} {T : Tab} {bs : List (Nat × IS)} {cl : Nat → Value} {mt : Nat → Nat → Option Bool} {fa : List He.Fa} {fn : List He.DefD} {tf : List He.Defn} {ex : PySem.W.Frag → Bool}
theorem code_in {x qual : Str} {params : Arguments} {body : List Stmt} {scope : Scope} {dvs : List V} {kws : List (Str × V)} {p : He.Defn} {fd : FuncData} (F : FunD K x qual params body scope dvs kws (He.fAd K p) fd) (hp : p ∈ tf) :
    ∃ c P, fd.code = .ref c ∧ (c, P) ∈ tf.map (He.cT K) := by
  obtain ⟨oc, od, dV, kV, doc, pm, an, cdv, ct, osl, e, lk, hcd, _, _⟩ := F.ex
  obtain ⟨c, ec⟩ := He.codeIn_ref hcd
  have e1 : fd.code = .ref c := by rw [e]; exact ec
  refine ⟨c, (He.cT K p).2, e1, List.mem_map.mpr ⟨p, hp, ?_⟩⟩
  have e2 : He.codeOf K p = c := He.codeOf_eq (fd := fd) (by first | exact lk | (rw [e]; exact lk)) e1
  unfold He.cT
  rw [e2]
theorem law_at {l : PySem.W.OpenLaw} {fd : FuncData} {g : Addr} {d j : Nat} (KX : K.In h) (c : He.SaysX fa fn [] tf ex w h K) (TF : TabFact l.prog w K mg T bs (tf.map (He.cT K)) cl mt) (hgn : T.gn ≠ 0 → tf ≠ [])
    (hj : T.fns[j]? = some ⟨"law", ["script"], []⟩) (ff : FnFact K mg T bs (tf.map (He.cT K)) j ⟨"law", ["script"], []⟩ g fd) (hb : ∀ (s : Shared) (u : Value), BindsTo s fd ⟨[u], []⟩ [("script", u)])
    (plain : ∀ ns : List Int, runs T bs mt d j [locked (ns.map PyData.int)] = .ok (.bool true)) : LamX.LawAtS l w K L2.CX0 (d * (T.gn + 1)) 63 "script" mg g h := by
  letI : Tabs := ⟨(tf.map (He.cT K)).map (·.2)⟩
  refine ⟨fd, tf.map (He.cT K), lawSp (tf.map (He.cT K)) K, fun p hp => ?_, fun p hp => ?_, fun p hp => ?_, hb, fun H a ns _ _ hT hS => ⟨a, ns, rfl, hT, hS, fun _ => rfl⟩, fun base KB _ hTab => ?_⟩
  · obtain ⟨q, hq, e⟩ := List.mem_map.mp hp
    subst e; exact c.empty q hq
  · obtain ⟨q, hq, e⟩ := List.mem_map.mp hp
    subst e; exact c.out q hq
  · obtain ⟨q, hq, e⟩ := List.mem_map.mp hp
    subst e; exact PySem.W.codeHd_of_K KX (c.hd q hq)
  · have BO : BaseOk T (tf.map (He.cT K)) mg base := ⟨fun p hp => (hTab p hp).code, fun n => by
      cases htf : tf with
      | nil => exact absurd htf (hgn n)
      | cons q r =>
        obtain ⟨bm, o, e1, e2, _, _, e3, e4, e5, e6⟩ := (hTab (He.cT K q) (by rw [htf]; exact List.mem_map.mpr ⟨q, List.mem_cons_self, rfl⟩)).bm
        exact ⟨bm, o, e1, e2, e3, e4, e5, e6⟩⟩
    exact law_frame rfl rfl (fn_quiet (fn_all (cs := tf.map (He.cT K)) rfl TF BO d j _ g fd hj ff)) fun H a ns t hS => law_says t hS (plain ns)
end
end DL
namespace DL
open PySem PySem.Spec PyProof.Rows L2
/-! ### defs by a tree, with quick answers -/
inductive Tr where
  | nil
  | node (l : Tr) (j : Nat) (f : List PyData → Option (R PyData)) (n : Nat) (B : IS) (np : Nat) (dfl : List PyData) (r : Tr)
noncomputable section
def padG (np : Nat) (dfl xs : List PyData) : List PyData := List.rec (motive := fun _ => List PyData) xs (fun _ _ _ => xs ++ dfl.drop (dfl.length - (np - xs.length))) dfl
def mapSh (xs : List PyData) : Env := List.rec (motive := fun _ => Env) [] (fun x _ r => .sh x :: r) xs
def envG (n : Nat) : List PyData → Env := Nat.rec (motive := fun _ => List PyData → Env) mapSh (fun _ ih xs => List.rec (motive := fun _ => Env) (.un :: ih []) (fun x t _ => .sh x :: ih t) xs) n
def finG (r : R Fl) : R PyData := R.rec (motive := fun _ => R PyData) (fun x => Fl.rec (motive := fun _ => R PyData) (fun _ => .ok .none) (fun d => .ok d) x) R.ex R.bad r
def trG {α : Type} (tr : Tr) (j : Nat) (k : (List PyData → Option (R PyData)) → Nat → IS → Nat → List PyData → α) (z : α) : α :=
  Tr.rec (motive := fun _ => α) z (fun _ i f n B np dfl _ l r => cF (Nat.beq j i) (k f n B np dfl) (cF (Nat.blt j i) l r)) tr
def rF (mt : Nat → Nat → Option Bool) (tr : Tr) (d : Nat) : Nat → List PyData → R PyData :=
  Nat.rec (motive := fun _ => Nat → List PyData → R PyData) (fun _ _ => .bad)
    (fun _ ih j xs => trG tr j (fun f n B np dfl => Option.rec (motive := fun _ => R PyData) (finG (exF ih mt B (envG n (padG np dfl xs)))) (fun r => r) (f xs)) .bad) d
end
theorem mapSh_eq : ∀ xs : List PyData, mapSh xs = xs.map Sl.sh
  | [] => rfl
  | x :: xs => by rw [List.map_cons, ← mapSh_eq xs]; rfl
theorem envG_eq : ∀ (n : Nat) (xs : List PyData), envG n xs = envOf n xs
  | 0, xs => by
    show mapSh xs = _
    rw [mapSh_eq]; unfold envOf; simp
  | n + 1, [] => by
    show Sl.un :: envG n [] = _
    rw [envG_eq n []]; unfold envOf; simp [List.replicate_succ]
  | n + 1, x :: xs => by
    show Sl.sh x :: envG n xs = _
    rw [envG_eq n xs]; unfold envOf; simp
theorem finG_eq (r : R Fl) : finG r = fin r := by
  cases r with
  | ok x => cases x <;> rfl
  | _ => rfl
theorem padG_eq (np : Nat) (dfl xs : List PyData) : padG np dfl xs = xs ++ dfl.drop (dfl.length - (np - xs.length)) := by
  cases dfl with
  | nil => show xs = _; simp
  | cons d r => rfl
/-- the tree tells the tables -/
def TrOk (T : Tab) (bs : List (Nat × IS)) (mt : Nat → Nat → Option Bool) (c : Nat) : Tr → Prop
  | .nil => True
  | .node l j f n B np dfl r => (bs[j]? = some (n, B) ∧ (∃ g, T.fns[j]? = some g ∧ g.ps.length = np ∧ g.dfl = dfl) ∧ ∀ d xs xs' q, c ≤ d → f xs = some q → FkA xs xs' → RR Fk q (callT T (runs T bs mt d) j xs')) ∧ TrOk T bs mt c l ∧ TrOk T bs mt c r
theorem trG_ok {T : Tab} {bs : List (Nat × IS)} {mt : Nat → Nat → Option Bool} {c : Nat} {j : Nat} {k : (List PyData → Option (R PyData)) → Nat → IS → Nat → List PyData → R PyData} {r' : R PyData} : ∀ {tr : Tr}, TrOk T bs mt c tr →
    (∀ f n B np dfl, bs[j]? = some (n, B) → (∃ g, T.fns[j]? = some g ∧ g.ps.length = np ∧ g.dfl = dfl) → (∀ d xs xs' q, c ≤ d → f xs = some q → FkA xs xs' → RR Fk q (callT T (runs T bs mt d) j xs')) → RR Fk (k f n B np dfl) r') → RR Fk (trG tr j k .bad) r'
  | .nil, _, _ => RR.bad
  | .node l i f n B np dfl r, h, hk => by
    show RR Fk (cF (Nat.beq j i) (k f n B np dfl) (cF (Nat.blt j i) (trG l j k .bad) (trG r j k .bad))) r'
    rw [cF_eq]
    by_cases e : j = i
    · subst e
      rw [if_pos (Nat.beq_refl j)]
      exact hk _ _ _ _ _ h.1.1 h.1.2.1 h.1.2.2
    · rw [if_neg (fun z => e (Nat.eq_of_beq_eq_true z)), cF_eq]
      by_cases q : Nat.blt j i = true
      · rw [if_pos q]; exact trG_ok h.2.1 hk
      · rw [if_neg q]; exact trG_ok h.2.2 hk
theorem rF_ok {T : Tab} {bs : List (Nat × IS)} {mt : Nat → Nat → Option Bool} {c : Nat} {tr : Tr} (h : TrOk T bs mt c tr) : ∀ (d j : Nat) (xs xs' : List PyData), FkA xs xs' → RR Fk (rF mt tr d j xs) (callT T (runs T bs mt (d + c)) j xs')
  | 0, j, xs, xs', _ => RR.bad
  | d + 1, j, xs, xs', g => by
    refine trG_ok (k := fun f n B np dfl => Option.rec (motive := fun _ => R PyData) (finG (exF (rF mt tr d) mt B (envG n (padG np dfl xs)))) (fun r => r) (f xs)) h fun f n B np dfl hb ⟨w, hw, hp, hd⟩ hf => ?_
    skip
    cases e : f xs with
    | some q => exact hf (d + 1 + c) xs xs' q (by omega) e g
    | none =>
      show RR Fk (finG (exF (rF mt tr d) mt B (envG n (padG np dfl xs)))) _
      rw [finG_eq, exF_eq, envG_eq, padG_eq]
      unfold callT
      rw [hw]
      dsimp only
      rw [show d + 1 + c = (d + c) + 1 by omega]
      unfold runs
      rw [hb]
      dsimp only
      have e2 : padOf w xs'.length = dfl.drop (dfl.length - (np - xs.length)) := by
        unfold padOf
        rw [hd, hp, g.length]
      rw [e2]
      exact fk_fin (fk_exec (fun j' ys ys' g' => rF_ok h d j' ys ys' g') B _ _ (fkE_of (g.append (FkA.refl _))))

/-! ### a slot that is never written -/
def noWr (i : Nat) : IS → Bool
  | .done => true
  | .set _ j _ k => (j != i) && noWr i k
  | .par _ is _ k => !is.contains i && noWr i k
  | .par2 _ _ j l _ _ k => (j != i) && (l != i) && noWr i k
  | .unp _ t _ k => !t.all.contains i && noWr i k
  | .app j _ k => (j != i) && noWr i k
  | .sto j _ _ k => (j != i) && noWr i k
  | .aug _ j _ k => (j != i) && noWr i k
  | .expr _ k => noWr i k
  | .ret _ => true
  | .ite _ a b k => noWr i a && noWr i b && noWr i k
  | .for_ t _ _ b k => !t.all.contains i && noWr i b && noWr i k
  | .while_ _ _ b k => noWr i b && noWr i k
  | .raise _ => true
  | .try_ _ _ k => noWr i k
  | .pas k => noWr i k
  | .fgt fz k => !fz.contains i && noWr i k
section
variable {i : Nat} {d : PyData}
def Kp (i : Nat) (d : PyData) (r : R Fl) : Prop := match r with
  | .ok (.next τ) => τ[i]? = some (.sh d)
  | _ => True
theorem Kp.bind {α : Type} {r : R α} {f : α → R Fl} (h : ∀ a, Kp i d (f a)) : Kp i d (r.bind f) := by
  cases r with
  | ok a => exact h a
  | _ => trivial
theorem Kp.next {r : R Fl} {f : Env → R Fl} (h : Kp i d r) (g : ∀ ρ : Env, ρ[i]? = some (.sh d) → Kp i d (f ρ)) : Kp i d (R.next r f) := by
  cases r with
  | ok x =>
    cases x with
    | next ρ => exact g ρ h
    | ret d => trivial
  | _ => trivial
theorem Kp.ite {c : Prop} [Decidable c] {r s : R Fl} (h : Kp i d r) (g : Kp i d s) : Kp i d (if c then r else s) := by split <;> assumption
theorem kp_set {ρ : Env} (h : ρ[i]? = some (.sh d)) {j : Nat} {s : Sl} (n : j ≠ i) : (ρ.set j s)[i]? = some (.sh d) := by rw [List.getElem?_set_ne n]; exact h
theorem kp_give {ρ : Env} (h : ρ[i]? = some (.sh d)) (fz : List Nat) : (give fz ρ)[i]? = some (.sh d) := by
  rw [give_get]
  split
  · rw [h]; rfl
  · exact h
theorem kp_many : ∀ {is : List Nat} {ds : List PyData} {ρ : Env}, ρ[i]? = some (.sh d) → i ∉ is → (setMany is ds ρ)[i]? = some (.sh d)
  | [], ds, ρ, h, _ => by simpa only [setMany] using h
  | j :: is, [], ρ, h, _ => by simpa only [setMany] using h
  | j :: is, x :: ds, ρ, h, n => by
    simp only [setMany]
    exact kp_many (kp_set h (fun z => n (by rw [z]; exact List.mem_cons_self))) fun z => n (List.mem_cons_of_mem _ z)
theorem kp_wipe : ∀ {vs : List Nat} {ρ : Env}, ρ[i]? = some (.sh d) → i ∉ vs → (wipeE ρ vs)[i]? = some (.sh d)
  | [], ρ, h, _ => h
  | v :: vs, ρ, h, n => kp_set (kp_wipe (vs := vs) h fun z => n (List.mem_cons_of_mem _ z)) fun z => n (by rw [z]; exact List.mem_cons_self)
theorem kp_bind {t : Tg} {x : PyData} {ρ ρ' : Env} (h : ρ[i]? = some (.sh d)) (n : i ∉ t.all) (e : bindT t x ρ = some ρ') : ρ'[i]? = some (.sh d) := by
  cases t with
  | one j =>
    simp only [bindT, Option.some.injEq] at e
    subst e
    exact kp_set h fun z => n (by simp [Tg.all, z])
  | many is =>
    cases x <;> simp only [bindT] at e <;> try cases e
    rw [bindMany_set e]
    exact kp_many h n
theorem kp_forGo {t : Tg} {fb : Env → R Fl} (n : i ∉ t.all) (hb : ∀ ρ : Env, ρ[i]? = some (.sh d) → Kp i d (fb ρ)) : ∀ (xs : List PyData) (ρ : Env), ρ[i]? = some (.sh d) → Kp i d (forGo t fb xs ρ)
  | [], ρ, h => h
  | x :: xs, ρ, h => by
    unfold forGo
    cases e : bindT t x ρ with
    | none => trivial
    | some ρ' => exact Kp.next (hb _ (kp_bind h n e)) fun σ hs => kp_forGo n hb xs σ hs
theorem kp_whileGo {fc : Env → R PyData} {fb : Env → R Fl} (hb : ∀ ρ : Env, ρ[i]? = some (.sh d) → Kp i d (fb ρ)) : ∀ (m : Nat) (ρ : Env), ρ[i]? = some (.sh d) → Kp i d (whileGo fc fb m ρ)
  | 0, ρ, h => trivial
  | m + 1, ρ, h => by
    unfold whileGo
    exact Kp.bind fun k => Kp.ite (Kp.next (hb _ h) fun σ hs => kp_whileGo hb m σ hs) h
theorem exec_keeps {call : Nat → List PyData → R PyData} {mt : Nat → Nat → Option Bool} : ∀ (st : IS), noWr i st = true → ∀ ρ : Env, ρ[i]? = some (.sh d) → Kp i d (exec call mt st ρ)
  | .done, _, ρ, h => by simp only [exec]; exact h
  | .set m j e k, n, ρ, h => by
    simp only [noWr, Bool.and_eq_true, bne_iff_ne] at n
    simp only [exec]
    cases m with
    | p => exact Kp.bind fun x => Kp.ite (exec_keeps k n.2 _ (kp_set h n.1)) trivial
    | f =>
      refine Kp.bind fun x => ?_
      unfold setF
      cases x <;> first | trivial | exact Kp.ite (exec_keeps k n.2 _ (kp_set h n.1)) trivial
    | z fz => exact Kp.bind fun x => exec_keeps k n.2 _ (kp_set (kp_give h fz) n.1)
    | fz fz =>
      refine Kp.bind fun x => ?_
      unfold setFz
      cases x <;> first | trivial | exact Kp.ite (exec_keeps k n.2 _ (kp_set (kp_give h fz) n.1)) trivial
  | .par m is es k, n, ρ, h => by
    simp only [noWr, Bool.and_eq_true, Bool.not_eq_true', List.contains_eq_mem, decide_eq_false_iff_not] at n
    simp only [exec]
    cases m with
    | none =>
      refine Kp.bind fun x => ?_
      unfold parD
      cases x <;> first | trivial | exact Kp.ite (exec_keeps k n.2 _ (kp_many h n.1)) trivial
    | some fz =>
      refine Kp.bind fun x => ?_
      unfold parZ
      cases x <;> first | trivial | exact Kp.ite (exec_keeps k n.2 _ (kp_many (kp_give h fz) n.1)) trivial
  | .par2 o1 o2 j l e1 e2 k, n, ρ, h => by
    simp only [noWr, Bool.and_eq_true, bne_iff_ne] at n
    simp only [exec]
    refine Kp.bind fun s1 => Kp.bind fun s2 => ?_
    unfold par2D
    exact Kp.ite (exec_keeps k n.2 _ (kp_set (kp_set h n.1.1) n.1.2)) trivial
  | .unp m t e k, n, ρ, h => by
    simp only [noWr, Bool.and_eq_true, Bool.not_eq_true', List.contains_eq_mem, decide_eq_false_iff_not] at n
    simp only [exec]
    cases m with
    | none =>
      refine Kp.bind fun x => ?_
      unfold unpD
      refine Kp.ite ?_ trivial
      cases q : bindT t x ρ with
      | none => trivial
      | some ρ' => exact exec_keeps k n.2 _ (kp_bind h n.1 q)
    | some fz =>
      refine Kp.bind fun x => ?_
      unfold unpZ
      cases q : bindT t x (give fz ρ) with
      | none => trivial
      | some ρ' => exact exec_keeps k n.2 _ (kp_bind (kp_give h fz) n.1 q)
  | .app j e k, n, ρ, h => by
    simp only [noWr, Bool.and_eq_true, bne_iff_ne] at n
    simp only [exec]
    split
    · refine Kp.bind fun x => ?_
      unfold appD
      refine Kp.ite ?_ trivial
      split
      · exact Kp.ite (exec_keeps k n.2 _ (kp_set h n.1)) trivial
      · trivial
    · trivial
  | .sto j ix e k, n, ρ, h => by
    simp only [noWr, Bool.and_eq_true, bne_iff_ne] at n
    simp only [exec]
    split
    · refine Kp.bind fun x => Kp.ite (Kp.bind fun y => ?_) trivial
      unfold stoD
      split
      · split
        · exact exec_keeps k n.2 _ (kp_set h n.1)
        · trivial
      · trivial
    · trivial
  | .aug o j e k, n, ρ, h => by
    simp only [noWr, Bool.and_eq_true, bne_iff_ne] at n
    simp only [exec]
    split
    · refine Kp.bind fun x => ?_
      unfold augD
      cases x <;> first | trivial | exact exec_keeps k n.2 _ (kp_set h n.1)
    · trivial
  | .expr e k, n, ρ, h => by simp only [noWr] at n; simp only [exec]; exact Kp.bind fun _ => exec_keeps k n ρ h
  | .ret e, n, ρ, h => by simp only [exec]; exact Kp.bind fun _ => trivial
  | .ite c a b k, n, ρ, h => by
    simp only [noWr, Bool.and_eq_true] at n
    simp only [exec]
    exact Kp.bind fun t => Kp.next (Kp.ite (exec_keeps a n.1.1 ρ h) (exec_keeps b n.1.2 ρ h)) fun σ hs => exec_keeps k n.2 σ hs
  | .for_ t fz it b k, n, ρ, h => by
    simp only [noWr, Bool.and_eq_true, Bool.not_eq_true', List.contains_eq_mem, decide_eq_false_iff_not] at n
    simp only [exec]
    refine Kp.bind fun x => ?_
    unfold forD
    cases x <;> first | trivial | exact Kp.next (kp_forGo n.1.1 (fun ρ hr => exec_keeps b n.1.2 ρ hr) _ _ (kp_give h fz)) fun σ hs => exec_keeps k n.2 σ hs
  | .while_ m c b k, n, ρ, h => by
    simp only [noWr, Bool.and_eq_true] at n
    simp only [exec]
    exact Kp.next (kp_whileGo (fun ρ hr => exec_keeps b n.1 ρ hr) m ρ h) fun σ hs => exec_keeps k n.2 σ hs
  | .raise c, n, ρ, h => by simp only [exec]; trivial
  | .try_ b hs k, n, ρ, h => by
    simp only [noWr] at n
    simp only [exec]
    unfold tryD
    split
    · exact exec_keeps k n ρ h
    · refine Kp.bind fun o => ?_
      cases o with
      | some d => trivial
      | none => exact exec_keeps k n ρ h
    · trivial
  | .pas k, n, ρ, h => by simp only [noWr] at n; simp only [exec]; exact exec_keeps k n ρ h
  | .fgt fz k, n, ρ, h => by
    simp only [noWr, Bool.and_eq_true, Bool.not_eq_true', List.contains_eq_mem, decide_eq_false_iff_not] at n
    simp only [exec]; exact exec_keeps k n.2 _ (kp_wipe h n.1)
end
end DL
namespace DL
open PySem PySem.Spec PyProof.Rows L2
/-! ### statements behind statements -/
def IS.thn (a b : IS) : IS := match a with
  | .done => b
  | .set m i e k => .set m i e (k.thn b)
  | .par m is e k => .par m is e (k.thn b)
  | .par2 o1 o2 i j e1 e2 k => .par2 o1 o2 i j e1 e2 (k.thn b)
  | .unp m t e k => .unp m t e (k.thn b)
  | .app i e k => .app i e (k.thn b)
  | .sto i x e k => .sto i x e (k.thn b)
  | .aug o i e k => .aug o i e (k.thn b)
  | .expr e k => .expr e (k.thn b)
  | .ret e => .ret e
  | .ite c x y k => .ite c x y (k.thn b)
  | .for_ t fz it x k => .for_ t fz it x (k.thn b)
  | .while_ n c x k => .while_ n c x (k.thn b)
  | .raise c => .raise c
  | .try_ x h k => .try_ x h (k.thn b)
  | .pas k => .pas (k.thn b)
  | .fgt fz k => .fgt fz (k.thn b)
termination_by structural a
theorem R.bind_next {α : Type} {r : R α} {f : α → R Fl} {g : Env → R Fl} : R.next (r.bind f) g = r.bind fun x => R.next (f x) g := by
  cases r <;> rfl
theorem R.next_next {r : R Fl} {f g : Env → R Fl} : R.next (R.next r f) g = R.next r fun ρ => R.next (f ρ) g := by
  cases r with
  | ok x => cases x <;> rfl
  | _ => rfl
section
variable (call : Nat → List PyData → R PyData) (mt : Nat → Nat → Option Bool)
theorem exec_thn (a b : IS) : ∀ ρ, exec call mt (a.thn b) ρ = R.next (exec call mt a ρ) (exec call mt b) := by
  induction a with
  | done => intro ρ; simp only [IS.thn, exec]; rfl
  | set m i e k ih =>
    intro ρ
    cases m <;> simp only [IS.thn, exec, R.bind_next] <;> congr 1 <;> funext d
    · split
      · exact ih _
      · rfl
    · unfold setF
      cases d <;> try rfl
      dsimp only
      split
      · exact ih _
      · rfl
    · exact ih _
    · unfold setFz
      cases d <;> try rfl
      dsimp only
      split
      · exact ih _
      · rfl
  | par m is e k ih =>
    intro ρ
    cases m <;> simp only [IS.thn, exec, R.bind_next] <;> congr 1 <;> funext d
    · unfold parD
      cases d <;> try rfl
      dsimp only
      split
      · exact ih _
      · rfl
    · unfold parZ
      cases d <;> try rfl
      dsimp only
      split
      · exact ih _
      · rfl
  | par2 o1 o2 i j e1 e2 k ih =>
    intro ρ
    simp only [IS.thn, exec, R.bind_next]
    congr 1
    funext s1
    congr 1
    funext s2
    unfold par2D
    split
    · exact ih _
    · rfl
  | unp m t e k ih =>
    intro ρ
    cases m <;> simp only [IS.thn, exec, R.bind_next] <;> congr 1 <;> funext d
    · unfold unpD
      split
      · split
        · exact ih _
        · rfl
      · rfl
    · unfold unpZ
      split
      · exact ih _
      · rfl
  | app i e k ih =>
    intro ρ
    simp only [IS.thn, exec]
    split
    · rw [R.bind_next]
      congr 1
      funext d
      unfold appD
      split
      · split
        · split
          · exact ih _
          · rfl
        · rfl
      · rfl
    · rfl
  | sto i x e k ih =>
    intro ρ
    simp only [IS.thn, exec]
    split
    · rw [R.bind_next]
      congr 1
      funext d
      split
      · rw [R.bind_next]
        congr 1
        funext j
        unfold stoD
        split
        · split
          · exact ih _
          · rfl
        · rfl
      · rfl
    · rfl
  | aug o i e k ih =>
    intro ρ
    simp only [IS.thn, exec]
    split
    · rw [R.bind_next]
      congr 1
      funext d
      unfold augD
      cases d <;> try rfl
      exact ih _
    · rfl
  | expr e k ih =>
    intro ρ
    simp only [IS.thn, exec, R.bind_next]
    congr 1
    funext d
    exact ih _
  | ret e =>
    intro ρ
    simp only [IS.thn, exec, R.bind_next]
    congr 1
  | ite c x y k _ _ ih =>
    intro ρ
    simp only [IS.thn, exec, R.bind_next, R.next_next]
    congr 1
    funext t
    congr 1
    funext σ
    exact ih _
  | for_ t fz it x k _ ih =>
    intro ρ
    simp only [IS.thn, exec, R.bind_next]
    congr 1
    funext d
    unfold forD
    cases d <;> try rfl
    dsimp only
    rw [R.next_next]
    congr 1
    funext σ
    exact ih _
  | while_ n c x k _ ih =>
    intro ρ
    simp only [IS.thn, exec, R.next_next]
    congr 1
    funext σ
    exact ih _
  | raise c => intro ρ; simp only [IS.thn, exec]; rfl
  | try_ x h k ih =>
    intro ρ
    simp only [IS.thn, exec]
    unfold tryD
    split
    · exact ih _
    · rw [R.bind_next]
      congr 1
      funext o
      cases o with
      | some d => rfl
      | none => exact ih _
    · rfl
  | pas k ih => intro ρ; simp only [IS.thn, exec]; exact ih _
  | fgt fz k ih => intro ρ; simp only [IS.thn, exec]; exact ih _
end


/-! ### rests -/
noncomputable section
def allU (f : Nat → Bool) (m : Nat) : Bool := Nat.rec (motive := fun _ => Bool) true (fun k ih => cF (f k) ih false) m
/-- at all rests by the divisors ms -/
def allR (ms : List Nat) : (List PyData → Bool) → Bool := List.rec (motive := fun _ => (List PyData → Bool) → Bool) (fun f => f []) (fun m _ ih f => allU (fun r => ih fun n => f (rst (Int.ofNat m) (Int.ofNat r) :: n)) m) ms
def allS (S : List Env) (f : Env → Bool) : Bool := List.rec (motive := fun _ => Bool) true (fun σ _ ih => cF (f σ) ih false) S
def anyS (S : List Env) (f : Env → Bool) : Bool := List.rec (motive := fun _ => Bool) false (fun σ _ ih => cF (f σ) true ih) S
end
theorem allU_of {f : Nat → Bool} : ∀ {m : Nat}, allU f m = true → ∀ k, k < m → f k = true
  | 0, _, k, h => absurd h (Nat.not_lt_zero k)
  | m + 1, h, k, hk => by
    have h : cF (f m) (allU f m) false = true := h
    rw [cF_eq] at h
    split at h
    · rename_i q
      by_cases e : k = m
      · subst e; exact q
      · exact allU_of h k (by omega)
    · cases h
theorem allR_of : ∀ {ms : List Nat} {f : List PyData → Bool}, allR ms f = true → ∀ bs : List Int, bs.length = ms.length → (∀ m ∈ ms, 0 < m) → ∃ n, FkA n (bs.map PyData.int) ∧ f n = true
  | [], f, h, bs, hl, _ => by
    cases bs with
    | nil => exact ⟨[], .nil, h⟩
    | cons b r => simp at hl
  | m :: ms, f, h, [], hl, _ => by simp at hl
  | m :: ms, f, h, b :: bs, hl, hm => by
    have h : allU (fun r => allR ms fun n => f (rst (Int.ofNat m) (Int.ofNat r) :: n)) m = true := h
    have m0 := hm m List.mem_cons_self
    have h1 := Int.emod_nonneg b (show (m : Int) ≠ 0 by omega)
    have h2 := Int.emod_lt_of_pos b (show (0 : Int) < (m : Int) by omega)
    have q := allU_of h (b % (m : Int)).toNat (by omega)
    obtain ⟨n, g, e⟩ := allR_of q bs (by simpa using hl) fun m' hm' => hm m' (List.mem_cons_of_mem _ hm')
    refine ⟨_, ?_, e⟩
    rw [List.map_cons]
    refine .cons ?_ g
    unfold rst
    simp only [Fk]
    refine .inr ⟨_, _, b, rfl, rfl, ?_⟩
    show b % (m : Int) = ((b % (m : Int)).toNat : Int) % (m : Int)
    rw [Int.toNat_of_nonneg h1, Int.emod_emod_of_dvd _ (Int.dvd_refl _)]
theorem allS_of {f : Env → Bool} : ∀ {S : List Env}, allS S f = true → ∀ σ ∈ S, f σ = true
  | [], _, σ, h => by cases h
  | τ :: S, h, σ, hs => by
    have h : cF (f τ) (allS S f) false = true := h
    rw [cF_eq] at h
    split at h
    · rename_i q
      rcases List.mem_cons.mp hs with e | e
      · subst e; exact q
      · exact allS_of h σ e
    · cases h
theorem anyS_of {f : Env → Bool} : ∀ {S : List Env}, anyS S f = true → ∃ σ ∈ S, f σ = true
  | [], h => by cases h
  | τ :: S, h => by
    have h : cF (f τ) true (anyS S f) = true := h
    rw [cF_eq] at h
    split at h
    · rename_i q; exact ⟨τ, List.mem_cons_self, q⟩
    · obtain ⟨σ, h1, h2⟩ := anyS_of h
      exact ⟨σ, List.mem_cons_of_mem _ h1, h2⟩

/-! ### what a frame tells, another tells too -/
mutual
def eqP (a b : PyData) : Bool := match a, b with
  | .none, .none => true
  | .bool x, .bool y => x == y
  | .int x, .int y => decide (x = y)
  | .str x, .str y => decide (x = y)
  | .tuple xs, .tuple ys => eqPs xs ys
  | .list xs, .list ys => eqPs xs ys
  | _, _ => false
termination_by structural a
def eqPs (a b : List PyData) : Bool := match a, b with
  | [], [] => true
  | x :: xs, y :: ys => eqP x y && eqPs xs ys
  | _, _ => false
termination_by structural a
end
mutual
theorem eqP_ok : ∀ a b : PyData, eqP a b = true → a = b
  | .none, b, h => by cases b <;> first | rfl | (simp [eqP] at h; done)
  | .bool x, b, h => by cases b <;> first | (simp [eqP] at h; done) | (simp only [eqP, beq_iff_eq] at h; rw [h])
  | .int x, b, h => by cases b <;> first | (simp [eqP] at h; done) | (simp only [eqP, decide_eq_true_eq] at h; rw [h])
  | .str x, b, h => by cases b <;> first | (simp [eqP] at h; done) | (simp only [eqP, decide_eq_true_eq] at h; rw [h])
  | .tuple xs, b, h => by cases b <;> first | (simp [eqP] at h; done) | (simp only [eqP] at h; rw [eqPs_ok xs _ h])
  | .list xs, b, h => by cases b <;> first | (simp [eqP] at h; done) | (simp only [eqP] at h; rw [eqPs_ok xs _ h])
  | .dict x, b, h => by cases b <;> simp [eqP] at h
theorem eqPs_ok : ∀ a b : List PyData, eqPs a b = true → a = b
  | [], b, h => by cases b <;> first | rfl | (simp [eqPs] at h; done)
  | x :: xs, b, h => by
    cases b with
    | nil => simp [eqPs] at h
    | cons y ys =>
      simp only [eqPs, Bool.and_eq_true] at h
      rw [eqP_ok x y h.1, eqPs_ok xs ys h.2]
end
def leS (s t : Sl) : Bool := match s, t with
  | .un, _ => true
  | .sh a, .sh b => eqP a b
  | .o1 a, .o1 b => eqPs a b
  | _, _ => false
def leE : Env → Env → Bool
  | [], [] => true
  | s :: r, t :: u => leS s t && leE r u
  | _, _ => false
theorem leS_ok {s t u : Sl} (h : leS s t = true) (g : FkS t u) : FkS s u := by
  unfold leS at h
  split at h
  · trivial
  · rw [eqP_ok _ _ h]; exact g
  · rw [eqPs_ok _ _ h]; exact g
  · cases h
theorem leE_ok : ∀ {σ τ : Env}, leE σ τ = true → σ.length = τ.length ∧ ∀ (j : Nat) (s : Sl), σ[j]? = some s → ∃ t, τ[j]? = some t ∧ leS s t = true
  | [], [], _ => ⟨rfl, fun j s e => by simp at e⟩
  | [], _ :: _, h => by cases h
  | _ :: _, [], h => by cases h
  | s :: r, t :: u, h => by
    simp only [leE, Bool.and_eq_true] at h
    obtain ⟨h1, h2⟩ := leE_ok h.2
    refine ⟨by rw [List.length_cons, List.length_cons, h1], fun j a e => ?_⟩
    cases j with
    | zero =>
      simp only [List.getElem?_cons_zero, Option.some.injEq] at e
      subst e
      exact ⟨t, rfl, h.1⟩
    | succ j =>
      rw [List.getElem?_cons_succ] at e ⊢
      exact h2 j a e
theorem FkE.le {σ τ τ' : Env} (h : leE σ τ = true) (g : FkE τ τ') : FkE σ τ' where
  len := (leE_ok h).1.trans g.len
  at_ := fun j s e => by
    obtain ⟨t, e1, q⟩ := (leE_ok h).2 j s e
    obtain ⟨u, e2, z⟩ := g.at_ j t e1
    exact ⟨u, e2, leS_ok q z⟩
theorem FkE.setL {ρ ρ' : Env} (h : FkE ρ ρ') {i : Nat} {s s' : Sl} (e : ρ'[i]? = some s') (q : FkS s s') : FkE (ρ.set i s) ρ' where
  len := by rw [List.length_set]; exact h.len
  at_ := fun j t z => by
    by_cases c : i = j
    · subst c
      by_cases l : i < ρ.length
      · rw [List.getElem?_set_self l] at z
        cases z
        exact ⟨s', e, q⟩
      · rw [List.getElem?_eq_none (by rw [List.length_set]; omega)] at z
        cases z
    · rw [List.getElem?_set_ne c] at z
      exact h.at_ j t z

/-! ### a piece of the law, at all states before it and all rests it looks at -/
noncomputable section
def nextG (S' : List Env) (r : R Fl) : Bool := R.rec (motive := fun _ => Bool) (fun x => Fl.rec (motive := fun _ => Bool) (fun τ => anyS S' fun σ' => leE σ' τ) (fun _ => false) x) (fun _ => false) false r
def yesG (r : R Fl) : Bool := match r with
  | .ok (.ret (.bool true)) => true
  | _ => false
def pieceB (mt : Nat → Nat → Option Bool) (tr : Tr) (d : Nat) (i : Nat) (ms : List Nat) (seg : IS) (ok : R Fl → Bool) (S : List Env) : Bool :=
  allS S fun σ => allR ms fun n => ok (exF (rF mt tr d) mt seg (setSF (.sh (.list n)) i σ))
end
/-- what is told of the frame at a place of the law: one of the states S, the draws bs at slot i -/
def At0 (i : Nat) (S : List Env) (bs : List Int) (ρ' : Env) : Prop := ρ'[i]? = some (.sh (.list (bs.map PyData.int))) ∧ ∃ σ ∈ S, FkE σ ρ'
section
variable {T : Tab} {bs : List (Nat × IS)} {mt : Nat → Nat → Option Bool} {c : Nat} {tr : Tr} {d i : Nat} {ms : List Nat} {seg : IS} {S S' : List Env} {ns : List Int} {ρ' : Env}
theorem piece_run (ht : TrOk T bs mt c tr) (hm : ms.all (fun m => decide (0 < m)) = true) {ok : R Fl → Bool} (h : pieceB mt tr d i ms seg ok S = true) (hl : ns.length = ms.length) (a : At0 i S ns ρ') :
    ∃ ρ, FkE ρ ρ' ∧ ok (exec (rF mt tr d) mt seg ρ) = true := by
  obtain ⟨hn, σ, hσ, g⟩ := a
  have q := allS_of h σ hσ
  obtain ⟨n, gn, e⟩ := allR_of q ns hl fun m hm' => by simpa using List.all_eq_true.mp hm m hm'
  rw [exF_eq, setSF_eq] at e
  exact ⟨_, g.setL (s := .sh (.list n)) hn ⟨_, rfl, .ofList gn⟩, e⟩
theorem piece_next (ht : TrOk T bs mt c tr) (hw : noWr i seg = true) (hm : ms.all (fun m => decide (0 < m)) = true) (h : pieceB mt tr d i ms seg (nextG S') S = true) (hl : ns.length = ms.length) (a : At0 i S ns ρ') :
    ∃ τ', exec (callT T (runs T bs mt (d + c))) mt seg ρ' = .ok (.next τ') ∧ At0 i S' ns τ' := by
  obtain ⟨ρ, g, e⟩ := piece_run ht hm h hl a
  have q := fk_exec (mt := mt) (fun j xs xs' z => rF_ok ht d j xs xs' z) seg _ _ g
  have k := exec_keeps (call := callT T (runs T bs mt (d + c))) (mt := mt) seg hw ρ' a.1
  cases e1 : exec (rF mt tr d) mt seg ρ with
  | ok x =>
    rw [e1] at e q
    obtain ⟨x', e2, z⟩ := q
    cases x with
    | next τ =>
      obtain ⟨τ', rfl, g2⟩ := z
      obtain ⟨σ', h1, h2⟩ := anyS_of (S := S') e
      refine ⟨τ', e2, ?_, σ', h1, g2.le h2⟩
      rw [e2] at k
      exact k
    | ret d => cases e
  | ex c => rw [e1] at e; cases e
  | bad => rw [e1] at e; cases e
theorem piece_yes (ht : TrOk T bs mt c tr) (hm : ms.all (fun m => decide (0 < m)) = true) (h : pieceB mt tr d i ms seg yesG S = true) (hl : ns.length = ms.length) (a : At0 i S ns ρ') :
    exec (callT T (runs T bs mt (d + c))) mt seg ρ' = .ok (.ret (.bool true)) := by
  obtain ⟨ρ, g, e⟩ := piece_run ht hm h hl a
  have q := fk_exec (mt := mt) (fun j xs xs' z => rF_ok ht d j xs xs' z) seg _ _ g
  unfold yesG at e
  split at e
  · rename_i e1
    rw [e1] at q
    obtain ⟨x', e2, z⟩ := q
    obtain ⟨d', rfl, z⟩ := z
    rw [e2, z.bool]
  · cases e
theorem At0.cat {S1 S2 : List Env} (a : At0 i (S1 ++ S2) ns ρ') : At0 i S1 ns ρ' ∨ At0 i S2 ns ρ' := by
  obtain ⟨hn, σ, hσ, g⟩ := a
  rcases List.mem_append.mp hσ with z | z
  · exact .inl ⟨hn, σ, z, g⟩
  · exact .inr ⟨hn, σ, z, g⟩
/-- states in several lists -/
theorem pieces {ok : R Fl → Bool} {L : List (List Env)} (h : ∀ S ∈ L, pieceB mt tr d i ms seg ok S = true) : pieceB mt tr d i ms seg ok L.flatten = true := by
  induction L with
  | nil => rfl
  | cons S L ih =>
    have h1 := h S List.mem_cons_self
    have h2 := ih fun S' hS => h S' (List.mem_cons_of_mem _ hS)
    rw [List.flatten_cons]
    generalize L.flatten = B at h2
    induction S with
    | nil => exact h2
    | cons σ S ih2 =>
      have h1 : cF (allR ms fun n => ok (exF (rF mt tr d) mt seg (setSF (.sh (.list n)) i σ))) (pieceB mt tr d i ms seg ok S) false = true := h1
      show cF (allR ms fun n => ok (exF (rF mt tr d) mt seg (setSF (.sh (.list n)) i σ))) (pieceB mt tr d i ms seg ok (S ++ B)) false = true
      rw [cF_eq] at h1 ⊢
      split at h1
      · rename_i q
        rw [if_pos q]
        exact ih2 (fun S' hS => by
          rcases List.mem_cons.mp hS with e | e
          · subst e; exact h1
          · exact h S' (List.mem_cons_of_mem _ e)) h1
      · cases h1
end
end DL
namespace DL
open PySem PySem.Spec PyProof.Rows L2
/-! ### fractions: what the defs of them give, told at once -/
namespace Q
theorem bok {α β : Type} {a : α} {f : α → R β} : (R.ok a).bind f = f a := rfl
theorem bex {α β : Type} {c : Nat} {f : α → R β} : (R.ex c : R α).bind f = .ex c := rfl
theorem nok {ρ : DL.Env} {f : DL.Env → R Fl} : R.next (.ok (.next ρ)) f = f ρ := rfl
theorem nret {d : PyData} {f : DL.Env → R Fl} : R.next (.ok (.ret d)) f = .ok (.ret d) := rfl
theorem tb {b : Bool} : truth (.bool b) = .ok b := rfl
theorem sv {d : PyData} : Sl.val (.sh d) = some d := rfl
theorem ut {f : List PyData → R PyData} {xs : List PyData} : unT f (.tuple xs) = f xs := rfl
theorem cd {x : PyData} {xs : List PyData} : consD x (.tuple xs) = .ok (.tuple (x :: xs)) := rfl
theorem eqI {i j : Int} : cmpD .eq (.int i) (.int j) = .ok (i == j) := rfl
theorem neI {i j : Int} : cmpD .ne (.int i) (.int j) = .ok (!(i == j)) := rfl
theorem ltI {i j : Int} : cmpD .lt (.int i) (.int j) = .ok (decide (i < j)) := rfl
theorem gtI {i j : Int} : cmpD .gt (.int i) (.int j) = .ok (decide (j < i)) := rfl
theorem geI {i j : Int} : cmpD .ge (.int i) (.int j) = .ok (decide (j ≤ i)) := rfl
theorem isN : cmpD .is_ .none .none = .ok true := rfl
theorem isI {i : Int} : cmpD .is_ (.int i) .none = .ok false := rfl
theorem abI {i : Int} : bltD .abs [.int i] = .ok (.int (if i < 0 then -i else i)) := rfl
theorem sbI {i j : Int} : binD .sub (.int i) (.int j) = .ok (.int (i - j)) := rfl
theorem adI {i j : Int} : binD .add (.int i) (.int j) = .ok (.int (i + j)) := rfl
theorem ngI {i : Int} : negD (.int i) = .ok (.int (-i)) := rfl
theorem fd {i j : Int} (h1 : 0 < j) (h2 : j.natAbs.log2 < 9000) : binD .fdiv (.int i) (.int j) = .ok (.int (i / j)) := if_pos ⟨h1, h2⟩
theorem p0 {x y : PyData} : subD (.tuple [x, y]) (.int 0) = .ok x := rfl
theorem p1 {x y : PyData} : subD (.tuple [x, y]) (.int 1) = .ok y := rfl
theorem isi_int {i : Int} : isiD (.int i) "int" = .ok true := by kernel_rfl
theorem isi_bool {i : Int} : isiD (.int i) "bool" = .ok false := by kernel_rfl
theorem isi_tup {xs : List PyData} : isiD (.tuple xs) "tuple" = .ok true := by kernel_rfl
def midI (i : Int) : Bool := Nat.blt i.natAbs 115792089237316195423570985008687907853269984665640564039457584007913129639936
theorem mid_log {i : Int} (h : midI i = true) : i.natAbs.log2 < 257 := by
  unfold midI at h
  rw [Nat.blt_eq] at h
  rcases Nat.eq_zero_or_pos i.natAbs with e | e
  · rw [e]; decide
  · exact (Nat.log2_lt (by omega)).mpr (Nat.lt_trans h (by decide))
theorem mul_ {i j : Int} (h1 : midI i = true) (h2 : midI j = true) : binD .mul (.int i) (.int j) = .ok (.int (i * j)) := if_pos (by
  have a := mid_log h1
  have b := mid_log h2
  unfold mulOk
  rw [show decide (i.natAbs.log2 + j.natAbs.log2 < 1000000) = true from decide_eq_true (by omega), Bool.or_true])
abbrev big9 : Nat := 2 ^ 8000
theorem mid_mul {i j : Int} (h1 : midI i = true) (h2 : midI j = true) : (i * j).natAbs < big9 := by
  unfold midI at h1 h2
  rw [Nat.blt_eq] at h1 h2
  rw [Int.natAbs_mul]
  refine Nat.lt_of_lt_of_le (Nat.mul_lt_mul'' h1 h2) (by decide)
theorem mid_big {i : Int} (h1 : midI i = true) : i.natAbs < big9 := by
  unfold midI at h1
  rw [Nat.blt_eq] at h1
  exact Nat.lt_of_lt_of_le h1 (by decide)
theorem log_ok {n : Nat} (h : n < big9) : n.log2 < 9000 := by
  rcases Nat.eq_zero_or_pos n with e | e
  · subst e; decide
  · have : n.log2 < 8000 := (Nat.log2_lt (by omega)).mpr h
    omega
theorem gcd_bnd {t b : Int} (hb : 0 < b) (h : b.natAbs < big9) : 0 < ((Int.gcd t b : Nat) : Int) ∧ ((Int.gcd t b : Nat) : Int).natAbs.log2 < 9000 := by
  have h1 : 0 < Int.gcd t b := Int.gcd_pos_of_ne_zero_right _ (by omega)
  have h2 : Int.gcd t b ≤ b.natAbs := Nat.le_of_dvd (by omega) (Int.gcd_dvd_natAbs_right ..)
  exact ⟨by omega, log_ok (by simpa using Nat.lt_of_le_of_lt h2 h)⟩
theorem mod_half {a b : Nat} (h : 0 < a % b) (hb : 0 < b) : 2 * (b % (a % b)) < b := by
  have h1 : a % b < b := Nat.mod_lt _ hb
  have h2 : b % (a % b) < a % b := Nat.mod_lt _ h
  have h3 : b % (a % b) ≤ b - a % b := by
    rw [Nat.mod_eq_sub_mod (by omega)]
    exact Nat.mod_le _ _
  omega
theorem euclid {fc : DL.Env → R PyData} {fb : DL.Env → R Fl} {mk : Nat → Nat → DL.Env} (h1 : ∀ a b, (fc (mk a b)).bind truth = .ok (decide (0 < b))) (h2 : ∀ a b, 0 < b → fb (mk a b) = .ok (.next (mk b (a % b)))) :
    ∀ (n fuel a b : Nat), b < 2 ^ n → 2 * n + 1 ≤ fuel → whileGo fc fb fuel (mk a b) = .ok (.next (mk (Nat.gcd a b) 0)) := by
  have stop : ∀ fuel a, 1 ≤ fuel → whileGo fc fb fuel (mk a 0) = .ok (.next (mk a 0)) := fun fuel a hf => by
    obtain ⟨m, rfl⟩ : ∃ m, fuel = m + 1 := ⟨fuel - 1, by omega⟩
    unfold whileGo
    rw [h1]
    rfl
  have step : ∀ m a b, 0 < b → whileGo fc fb (m + 1) (mk a b) = whileGo fc fb m (mk b (a % b)) := fun m a b hb => by
    show ((fc (mk a b)).bind truth).bind _ = _
    rw [h1, decide_eq_true hb]
    show (fb (mk a b)).bind _ = _
    rw [h2 a b hb]
    rfl
  intro n
  induction n with
  | zero =>
    intro fuel a b hb hf
    have e : b = 0 := by simpa using hb
    subst e
    rw [Nat.gcd_zero_right]
    exact stop _ _ (by omega)
  | succ n ih =>
    intro fuel a b hb hf
    rcases Nat.eq_zero_or_pos b with e | hb0
    · subst e
      rw [Nat.gcd_zero_right]
      exact stop _ _ (by omega)
    · obtain ⟨m, rfl⟩ : ∃ m, fuel = m + 1 + 1 := ⟨fuel - 2, by omega⟩
      rw [step _ _ _ hb0]
      have g1 : Nat.gcd a b = Nat.gcd b (a % b) := by rw [Nat.gcd_comm a b, Nat.gcd_rec b a, Nat.gcd_comm]
      rcases Nat.eq_zero_or_pos (a % b) with e | hr
      · rw [g1, e, Nat.gcd_zero_right]
        exact stop _ _ (by omega)
      · rw [step _ _ _ hr]
        have g2 : Nat.gcd b (a % b) = Nat.gcd (a % b) (b % (a % b)) := by rw [Nat.gcd_comm b, Nat.gcd_rec (a % b) b, Nat.gcd_comm]
        rw [g1, g2]
        refine ih m (a % b) (b % (a % b)) ?_ (by omega)
        have := mod_half hr hb0
        rw [Nat.pow_succ] at hb
        omega
/-- over the greatest common divisor -/
def lowP (t b : Int) : PyData := .tuple [.int (t / (Int.gcd t b : Nat)), .int (b / (Int.gcd t b : Nat))]
abbrev fr (t b : Int) : PyData := .tuple [.int t, .int b]
/-- def j of the tables -/
structure Has (T : Tab) (bs : List (Nat × IS)) (j n : Nat) (B : IS) (np : Nat) (dfl : List PyData) : Prop where
  b : bs[j]? = some (n, B)
  t : ∃ g, T.fns[j]? = some g ∧ g.ps.length = np ∧ g.dfl = dfl
section
variable {T : Tab} {bs : List (Nat × IS)} {mt : Nat → Nat → Option Bool}
theorem call_eq {j n np d : Nat} {B : IS} {dfl : List PyData} (h : Has T bs j n B np dfl) (xs : List PyData) : callT T (runs T bs mt (d + 1)) j xs = fin (exec (callT T (runs T bs mt d)) mt B (envOf n (xs ++ dfl.drop (dfl.length - (np - xs.length))))) := by
  obtain ⟨g, h1, h2, h3⟩ := h.t
  have e : callT T (runs T bs mt (d + 1)) j xs = runs T bs mt (d + 1) j (xs ++ padOf g xs.length) := by
    generalize runs T bs mt (d + 1) = f
    unfold callT
    rw [h1]
  have e2 : ∀ ys, runs T bs mt (d + 1) j ys = fin (exec (callT T (runs T bs mt d)) mt B (envOf n ys)) := fun ys => by
    show (match bs[j]? with
      | some (n, B) => fin (exec (callT T (runs T bs mt d)) mt B (envOf n ys))
      | none => .bad) = _
    rw [h.b]
  rw [e, e2]
  unfold padOf
  rw [h2, h3]
end
abbrev fuel : Nat := 100000
def wholeIR : IS := .ret (.and (.isi (.var 0) "int") (.and (.not (.isi (.var 0) "bool")) (.one (.or (.cmp .is_ (.var 1) (.non)) (.one (.cmp .ge (.var 0) (.var 1)))))))
def commonIR : IS :=
  .while_ fuel (.cmp .gt (.var 1) (.int 0))
    (.par (some []) [0, 1] (.econs (.var 1) (.econs (.bin .mod (.var 0) (.var 1)) (.enil)))
    (.done))
  (.ret (.var 0))
def ratioIR (w c e : Nat) : IS :=
  .ite (.or (.not (.call w (.econs (.var 0) (.enil)))) (.or (.not (.call w (.econs (.var 1) (.enil)))) (.one (.cmp .eq (.var 1) (.int 0)))))
    (.raise e)
    (.done)
  (.ite (.cmp .lt (.var 1) (.int 0))
    (.par (some []) [0, 1] (.econs (.neg (.var 0)) (.econs (.neg (.var 1)) (.enil)))
    (.done))
    (.done)
  (.set (.z []) 2 (.call c (.econs (.blt .abs (.econs (.var 0) (.enil))) (.econs (.var 1) (.enil))))
  (.ret (.tup (.econs (.bin .fdiv (.var 0) (.var 2)) (.econs (.bin .fdiv (.var 1) (.var 2)) (.enil)))))))
def isrIR (w c : Nat) : IS :=
  .ite (.or (.not (.isi (.var 0) "tuple")) (.or (.cmp .ne (.blt .len (.econs (.var 0) (.enil))) (.int 2)) (.or (.not (.call w (.econs (.sub (.var 0) (.int 0)) (.enil)))) (.one (.not (.call w (.econs (.sub (.var 0) (.int 1)) (.econs (.int 1) (.enil)))))))))
    (.ret (.bl false))
    (.done)
  (.ret (.cmp .eq (.call c (.econs (.blt .abs (.econs (.sub (.var 0) (.int 0)) (.enil))) (.econs (.sub (.var 0) (.int 1)) (.enil)))) (.int 1)))
def addIR (r : Nat) : IS :=
  .ret (.call r (.econs (.bin .add (.bin .mul (.sub (.var 0) (.int 0)) (.sub (.var 1) (.int 1))) (.bin .mul (.sub (.var 1) (.int 0)) (.sub (.var 0) (.int 1)))) (.econs (.bin .mul (.sub (.var 0) (.int 1)) (.sub (.var 1) (.int 1))) (.enil))))
def lessIR (r : Nat) : IS :=
  .ret (.call r (.econs (.bin .sub (.bin .mul (.sub (.var 0) (.int 0)) (.sub (.var 1) (.int 1))) (.bin .mul (.sub (.var 1) (.int 0)) (.sub (.var 0) (.int 1)))) (.econs (.bin .mul (.sub (.var 0) (.int 1)) (.sub (.var 1) (.int 1))) (.enil))))
def timesIR (r : Nat) : IS :=
  .ret (.call r (.econs (.bin .mul (.sub (.var 0) (.int 0)) (.sub (.var 1) (.int 0))) (.econs (.bin .mul (.sub (.var 0) (.int 1)) (.sub (.var 1) (.int 1))) (.enil))))
def overIR (r e : Nat) : IS :=
  .ite (.cmp .eq (.sub (.var 1) (.int 0)) (.int 0))
    (.raise e)
    (.done)
  (.ret (.call r (.econs (.bin .mul (.sub (.var 0) (.int 0)) (.sub (.var 1) (.int 1))) (.econs (.bin .mul (.sub (.var 0) (.int 1)) (.sub (.var 1) (.int 0))) (.enil)))))
def lowT : IS := .while_ fuel (.cmp .gt (.var 3) (.int 0))
    (.par (some []) [2, 3] (.econs (.var 3) (.econs (.bin .mod (.var 2) (.var 3)) (.enil)))
    (.done))
  (.ret (.tup (.econs (.bin .fdiv (.var 0) (.var 2)) (.econs (.bin .fdiv (.var 1) (.var 2)) (.enil)))))
def lowIR : IS :=
  .ite (.cmp .lt (.var 1) (.int 0))
    (.par (some []) [0, 1] (.econs (.bin .sub (.int 0) (.var 0)) (.econs (.bin .sub (.int 0) (.var 1)) (.enil)))
    (.done))
    (.done)
  (.par (some []) [2, 3] (.econs (.blt .abs (.econs (.var 0) (.enil))) (.econs (.var 1) (.enil))) lowT)
def underIR : IS := .ret (.cmp .lt (.bin .mul (.sub (.var 0) (.int 0)) (.sub (.var 1) (.int 1))) (.bin .mul (.sub (.var 1) (.int 0)) (.sub (.var 0) (.int 1))))
section
variable {T : Tab} {bs : List (Nat × IS)} {mt : Nat → Nat → Option Bool} {d : Nat} {w c r e : Nat}
theorem whole (h : Has T bs w 2 wholeIR 2 [.none]) {i : Int} : callT T (runs T bs mt (d + 1)) w [.int i] = .ok (.bool true) := by
  rw [call_eq h]
  simp [wholeIR, DL.exec, ev, DL.envOf, sv, bok, tb, isi_int, isi_bool, isN, isI, geI, fin]
theorem whole2 (h : Has T bs w 2 wholeIR 2 [.none]) {i l : Int} : callT T (runs T bs mt (d + 1)) w [.int i, .int l] = .ok (.bool (decide (l ≤ i))) := by
  rw [call_eq h]
  simp [wholeIR, DL.exec, ev, DL.envOf, sv, bok, tb, isi_int, isi_bool, isN, isI, geI, fin]
theorem common_ (h : Has T bs c 2 commonIR 2 []) {a b : Nat} (hb : b < big9) : callT T (runs T bs mt (d + 1)) c [.int a, .int b] = .ok (.int (Nat.gcd a b : Nat)) := by
  rw [call_eq h]
  have q := euclid (fc := ev (callT T (runs T bs mt d)) (.cmp .gt (.var 1) (.int 0))) (fb := exec (callT T (runs T bs mt d)) mt (.par (some []) [0, 1] (.econs (.var 1) (.econs (.bin .mod (.var 0) (.var 1)) (.enil))) (.done))) (mk := fun a b => [.sh (.int a), .sh (.int b)])
    (fun a b => by simp [ev, Sl.val, R.bind, cmpD, truth]) (fun a b h => by simp [DL.exec, ev, Sl.val, R.bind, consD, binD, hideAt, parZ, setMany, give, h]) 8000 fuel a b hb (by decide)
  have q : whileGo (ev (callT T (runs T bs mt d)) (.cmp .gt (.var 1) (.int 0))) (exec (callT T (runs T bs mt d)) mt (.par (some []) [0, 1] (.econs (.var 1) (.econs (.bin .mod (.var 0) (.var 1)) (.enil))) (.done))) fuel (DL.envOf 2 ([.int a, .int b] ++ List.drop (([] : List PyData).length - (2 - [PyData.int a, PyData.int b].length)) [])) = .ok (.next [.sh (.int (Nat.gcd a b : Nat)), .sh (.int 0)]) := q
  unfold commonIR
  rw [DL.exec, q]
  simp [DL.exec, ev, Sl.val, R.bind, R.next, fin]
/-- the bottom above nought -/
theorem ratio_ (hw : Has T bs w 2 wholeIR 2 [.none]) (hc : Has T bs c 2 commonIR 2 []) (h : Has T bs r 3 (ratioIR w c e) 2 [.int 1]) {t b : Int} (hb : 0 < b) (hbig : b.natAbs < big9) : callT T (runs T bs mt (d + 2)) r [.int t, .int b] = .ok (lowP t b) := by
  rw [call_eq h]
  have e1 : (if t < 0 then -t else t) = ((t.natAbs : Nat) : Int) := by split <;> omega
  have e2 : b = ((b.natAbs : Nat) : Int) := by omega
  have key : callT T (runs T bs mt (d + 1)) c [.int (if t < 0 then -t else t), .int b] = .ok (.int (Int.gcd t b : Nat)) := by
    rw [e1]
    have q := common_ (mt := mt) (d := d) hc (a := t.natAbs) (b := b.natAbs) hbig
    rw [← e2] at q
    rw [q]
    rfl
  obtain ⟨g1, g2⟩ := gcd_bnd (t := t) (b := b) hb hbig
  have hn : ¬ b < 0 := by omega
  have hz : b ≠ 0 := by omega
  simp [ratioIR, DL.exec, ev, DL.envOf, sv, bok, bex, nok, nret, tb, ut, cd, whole hw, eqI, ltI, ngI, abI, hideAt, parZ, give, setMany, hn, hz, key, fd g1 g2, lowP, fin]
theorem lowT_ok {c : Nat → List PyData → R PyData} {t b : Int} (hb : 0 < b) (h : b.natAbs < big9) : exec c mt lowT [.sh (.int t), .sh (.int b), .sh (.int (if t < 0 then -t else t)), .sh (.int b)] = .ok (.ret (lowP t b)) := by
  have e1 : (if t < 0 then -t else t) = ((t.natAbs : Nat) : Int) := by split <;> omega
  have e2 : b = ((b.natAbs : Nat) : Int) := by omega
  obtain ⟨g1, g2⟩ := gcd_bnd (t := t) (b := b) hb h
  rw [e1]
  have q := euclid (fc := ev c (.cmp .gt (.var 3) (.int 0))) (fb := exec c mt (.par (some []) [2, 3] (.econs (.var 3) (.econs (.bin .mod (.var 2) (.var 3)) (.enil))) (.done))) (mk := fun x y => [.sh (.int t), .sh (.int b), .sh (.int x), .sh (.int y)])
    (fun x y => by simp [ev, sv, bok, gtI, tb]) (fun x y h => by simp [DL.exec, ev, sv, bok, cd, binD, hideAt, parZ, setMany, give, h]) 8000 fuel t.natAbs b.natAbs h (by decide)
  rw [← e2] at q
  unfold lowT
  rw [DL.exec, q, nok]
  have g : Nat.gcd t.natAbs b.natAbs = Int.gcd t b := rfl
  simp [DL.exec, ev, sv, bok, cd, g, fd g1 g2, lowP]
/-- the law's own lowest terms -/
theorem low_ (h : Has T bs r 4 lowIR 2 []) {t b : Int} (hb : 0 < b) (hbig : b.natAbs < big9) : callT T (runs T bs mt (d + 1)) r [.int t, .int b] = .ok (lowP t b) := by
  rw [call_eq h]
  have hn : ¬ b < 0 := by omega
  have k' := lowT_ok (mt := mt) (c := callT T (runs T bs mt d)) (t := t) (b := b) hb hbig
  simp [lowIR, DL.exec, ev, DL.envOf, sv, bok, bex, nok, nret, tb, ut, cd, ltI, abI, hideAt, parZ, give, setMany, hn, k', fin]
theorem isr (hw : Has T bs w 2 wholeIR 2 [.none]) (hc : Has T bs c 2 commonIR 2 []) (h : Has T bs r 1 (isrIR w c) 1 []) {t b : Int} (hbig : b.natAbs < big9) : callT T (runs T bs mt (d + 2)) r [fr t b] = .ok (.bool (decide (1 ≤ b) && decide (Int.gcd t b = 1))) := by
  rw [call_eq h]
  by_cases hb : 1 ≤ b
  · have e1 : (if t < 0 then -t else t) = ((t.natAbs : Nat) : Int) := by split <;> omega
    have e2 : b = ((b.natAbs : Nat) : Int) := by omega
    have k := common_ (mt := mt) (d := d) hc (a := t.natAbs) (b := b.natAbs) hbig
    rw [← e1, ← e2] at k
    have g : Nat.gcd t.natAbs b.natAbs = Int.gcd t b := rfl
    have z : ((Int.gcd t b : Nat) : Int) = 1 ↔ Int.gcd t b = 1 := by omega
    simp [isrIR, DL.exec, ev, DL.envOf, sv, bok, nok, tb, ut, cd, whole hw, whole2 hw, isi_tup, subD, atD, bltD, neI, eqI, hb, k, g, fin, Int.ofNat]
    rw [Bool.eq_iff_iff]
    simp
    omega
  · simp [isrIR, DL.exec, ev, DL.envOf, sv, bok, nok, nret, tb, ut, cd, whole hw, whole2 hw, isi_tup, subD, atD, bltD, neI, eqI, hb, fin]
section
variable {t b u v : Int} (h1 : midI t = true) (h2 : midI b = true) (h3 : midI u = true) (h4 : midI v = true)
include h1 h2 h3 h4
theorem add_ {j : Nat} (h : Has T bs j 2 (addIR r) 2 []) : callT T (runs T bs mt (d + 1)) j [fr t b, fr u v] = callT T (runs T bs mt d) r [.int (t * v + u * b), .int (b * v)] := by
  rw [call_eq h]
  simp [addIR, DL.exec, ev, DL.envOf, sv, bok, ut, cd, p0, p1, mul_ h1 h4, mul_ h3 h2, mul_ h2 h4, adI]
  cases callT T (runs T bs mt d) r [.int (t * v + u * b), .int (b * v)] <;> rfl
theorem less_ {j : Nat} (h : Has T bs j 2 (lessIR r) 2 []) : callT T (runs T bs mt (d + 1)) j [fr t b, fr u v] = callT T (runs T bs mt d) r [.int (t * v - u * b), .int (b * v)] := by
  rw [call_eq h]
  simp [lessIR, DL.exec, ev, DL.envOf, sv, bok, ut, cd, p0, p1, mul_ h1 h4, mul_ h3 h2, mul_ h2 h4, sbI]
  cases callT T (runs T bs mt d) r [.int (t * v - u * b), .int (b * v)] <;> rfl
theorem times_ {j : Nat} (h : Has T bs j 2 (timesIR r) 2 []) : callT T (runs T bs mt (d + 1)) j [fr t b, fr u v] = callT T (runs T bs mt d) r [.int (t * u), .int (b * v)] := by
  rw [call_eq h]
  simp [timesIR, DL.exec, ev, DL.envOf, sv, bok, ut, cd, p0, p1, mul_ h1 h3, mul_ h2 h4]
  cases callT T (runs T bs mt d) r [.int (t * u), .int (b * v)] <;> rfl
theorem over_ {j : Nat} (hu : u ≠ 0) (h : Has T bs j 2 (overIR r e) 2 []) : callT T (runs T bs mt (d + 1)) j [fr t b, fr u v] = callT T (runs T bs mt d) r [.int (t * v), .int (b * u)] := by
  rw [call_eq h]
  simp [overIR, DL.exec, ev, DL.envOf, sv, bok, nok, tb, eqI, hu, ut, cd, p0, p1, mul_ h1 h4, mul_ h2 h3]
  cases callT T (runs T bs mt d) r [.int (t * v), .int (b * u)] <;> rfl
theorem under_ {j : Nat} (h : Has T bs j 2 underIR 2 []) : callT T (runs T bs mt (d + 1)) j [fr t b, fr u v] = .ok (.bool (decide (t * v < u * b))) := by
  rw [call_eq h]
  simp [underIR, DL.exec, ev, DL.envOf, sv, bok, ut, cd, p0, p1, mul_ h1 h4, mul_ h3 h2, ltI, fin]
end
end
end Q
end DL
namespace DL
open PySem PySem.Spec PyProof.Rows L2
namespace Q
/-! ### the quick answers -/
noncomputable section
abbrev O : Type := Option (R PyData)
def fF (x : PyData) (k : Int → Int → O) : O := tF x (fun l => List.rec (motive := fun _ => O) none (fun a l1 _ => List.rec (motive := fun _ => O) none (fun b l2 _ => List.rec (motive := fun _ => O) (iF a (fun i => iF b (fun j => k i j) none) none) (fun _ _ _ => none) l2) l1) l) none
def a1 (xs : List PyData) (k : PyData → O) : O := List.rec (motive := fun _ => O) none (fun a l1 _ => List.rec (motive := fun _ => O) (k a) (fun _ _ _ => none) l1) xs
def a2 (xs : List PyData) (k : PyData → PyData → O) : O := List.rec (motive := fun _ => O) none (fun a l1 _ => List.rec (motive := fun _ => O) none (fun b l2 _ => List.rec (motive := fun _ => O) (k a b) (fun _ _ _ => none) l2) l1) xs
def gd (b : Bool) (r : O) : O := cF b r none
def posI (i : Int) : Bool := Int.rec (motive := fun _ => Bool) (fun n => Nat.blt 0 n) (fun _ => false) i
def lowG (t b : Int) : PyData := Int.rec (motive := fun _ => PyData) (fun x => Int.rec (motive := fun _ => PyData) (fun y => .tuple [.int (Int.ofNat (Nat.div x (Nat.gcd x y))), .int (Int.ofNat (Nat.div y (Nat.gcd x y)))]) (fun _ => lowP t b) b) (fun _ => lowP t b) t
def mulN (t b : Int) : Int := Int.rec (motive := fun _ => Int) (fun x => Int.rec (motive := fun _ => Int) (fun y => Int.ofNat (Nat.mul x y)) (fun _ => t * b) b) (fun _ => t * b) t
def addN (t b : Int) : Int := Int.rec (motive := fun _ => Int) (fun x => Int.rec (motive := fun _ => Int) (fun y => Int.ofNat (Nat.add x y)) (fun _ => t + b) b) (fun _ => t + b) t
def midF (t : Int) : Bool := Int.rec (motive := fun _ => Bool) (fun x => Nat.blt x 115792089237316195423570985008687907853269984665640564039457584007913129639936) (fun _ => midI t) t
def mids (t b u v : Int) (r : O) : O := gd (midF t) (gd (midF b) (gd (midF u) (gd (midF v) r)))
def ovAdd (xs : List PyData) : O := a2 xs fun x y => fF x fun t b => fF y fun u v => gd (posI b) (gd (posI v) (mids t b u v (some (.ok (lowG (addN (mulN t v) (mulN u b)) (mulN b v))))))
def ovLess (xs : List PyData) : O := a2 xs fun x y => fF x fun t b => fF y fun u v => gd (posI b) (gd (posI v) (mids t b u v (some (.ok (lowG (Int.sub (mulN t v) (mulN u b)) (mulN b v))))))
def ovTimes (xs : List PyData) : O := a2 xs fun x y => fF x fun t b => fF y fun u v => gd (posI b) (gd (posI v) (mids t b u v (some (.ok (lowG (mulN t u) (mulN b v))))))
def ovOver (xs : List PyData) : O := a2 xs fun x y => fF x fun t b => fF y fun u v => gd (posI b) (gd (posI u) (mids t b u v (some (.ok (lowG (mulN t v) (mulN b u))))))
def ovUnder (xs : List PyData) : O := a2 xs fun x y => fF x fun t b => fF y fun u v => mids t b u v (some (.ok (.bool (ltF (mulN t v) (mulN u b)))))
def ovLow (xs : List PyData) : O := a2 xs fun x y => iF x (fun t => iF y (fun b => gd (posI b) (gd (midI b) (some (.ok (lowG t b))))) none) none
def ovIsr (xs : List PyData) : O := a1 xs fun x => fF x fun t b => gd (midI b) (some (.ok (.bool (cF (posI b) (Nat.beq (Int.gcd t b) 1) false))))
def ovWhole (xs : List PyData) : O := a1 xs fun x => iF x (fun _ => some (.ok (.bool true))) none
def sumG (l : List PyData) : Int → Int → O := List.rec (motive := fun _ => Int → Int → O) (fun t b => some (.ok (fr t b)))
  (fun x _ ih t b => fF x fun u v => gd (posI b) (gd (posI v) (mids t b u v (fF (lowG (addN (mulN t v) (mulN u b)) (mulN b v)) ih)))) l
def ovSum (xs : List PyData) : O := a1 xs fun x => PyData.casesOn (motive_1 := fun _ => O) x none (fun _ => none) (fun _ => none) (fun _ => none) (fun l => sumG l 0 1) (fun l => sumG l 0 1) (fun _ => none)
end
theorem lowG_eq (t b : Int) : lowG t b = lowP t b := by cases t <;> cases b <;> rfl
theorem mulN_eq (t b : Int) : mulN t b = t * b := by cases t <;> cases b <;> rfl
theorem addN_eq (t b : Int) : addN t b = t + b := by cases t <;> cases b <;> rfl
theorem midF_eq (t : Int) : midF t = midI t := by cases t <;> rfl
theorem subN_eq (t b : Int) : Int.sub t b = t - b := rfl
theorem fF_some {x : PyData} {k : Int → Int → O} {q : R PyData} (h : fF x k = some q) : ∃ i j, x = fr i j ∧ k i j = some q := by
  cases x <;> try cases h
  rename_i l
  match l, h with
  | [], h => cases h
  | [_], h => cases h
  | [a, b], h =>
    have h : iF a (fun i => iF b (fun j => k i j) none) none = some q := h
    cases a <;> try cases h
    cases b <;> try cases h
    exact ⟨_, _, rfl, h⟩
  | _ :: _ :: _ :: _, h => cases h
theorem a1_some {xs : List PyData} {k : PyData → O} {q : R PyData} (h : a1 xs k = some q) : ∃ a, xs = [a] ∧ k a = some q := by
  match xs, h with
  | [], h => cases h
  | [a], h => exact ⟨a, rfl, h⟩
  | _ :: _ :: _, h => cases h
theorem a2_some {xs : List PyData} {k : PyData → PyData → O} {q : R PyData} (h : a2 xs k = some q) : ∃ a b, xs = [a, b] ∧ k a b = some q := by
  match xs, h with
  | [], h => cases h
  | [_], h => cases h
  | [a, b], h => exact ⟨a, b, rfl, h⟩
  | _ :: _ :: _ :: _, h => cases h
theorem gd_some {b : Bool} {r : O} {q : R PyData} (h : gd b r = some q) : b = true ∧ r = some q := by
  cases b with
  | true => exact ⟨rfl, h⟩
  | false => cases h
theorem posI_ok {i : Int} (h : posI i = true) : 0 < i := by
  cases i with
  | ofNat n =>
    have h : Nat.blt 0 n = true := h
    rw [Nat.blt_eq] at h
    exact Int.natCast_pos.mpr h
  | negSucc n => cases h
theorem mids_some {t b u v : Int} {r : O} {q : R PyData} (h : mids t b u v r = some q) : midI t = true ∧ midI b = true ∧ midI u = true ∧ midI v = true ∧ r = some q := by
  obtain ⟨h1, h⟩ := gd_some h
  obtain ⟨h2, h⟩ := gd_some h
  obtain ⟨h3, h⟩ := gd_some h
  obtain ⟨h4, h⟩ := gd_some h
  rw [midF_eq] at h1 h2 h3 h4
  exact ⟨h1, h2, h3, h4, h⟩
theorem known_fr {i j : Int} : known (fr i j) = true := by simp [known, knowns]
theorem k1 {a : PyData} (h : known a = true) {xs' : List PyData} (g : FkA [a] xs') : xs' = [a] := FkA.known _ _ (by simp [knowns, h]) g
theorem k2 {a b : PyData} (h : known a = true) (h2 : known b = true) {xs' : List PyData} (g : FkA [a, b] xs') : xs' = [a, b] := FkA.known _ _ (by simp [knowns, h, h2]) g
/-- a quick answer of def j, from depth 5 on -/
def OvP (T : Tab) (bs : List (Nat × IS)) (mt : Nat → Nat → Option Bool) (j : Nat) (f : List PyData → O) : Prop := ∀ d xs xs' q, 5 ≤ d → f xs = some q → FkA xs xs' → RR Fk q (callT T (runs T bs mt d) j xs')
section
variable {T : Tab} {bs : List (Nat × IS)} {mt : Nat → Nat → Option Bool} {w c r e j : Nat}
theorem ov_whole (h : Has T bs j 2 wholeIR 2 [.none]) : OvP T bs mt j ovWhole := fun d xs xs' q hd hq g => by
  obtain ⟨a, rfl, hq⟩ := a1_some hq
  cases a <;> try cases hq
  rw [k1 (by simp [known]) g]
  obtain ⟨m, rfl⟩ : ∃ m, d = m + 1 := ⟨d - 1, by omega⟩
  rw [whole h]
  exact RR.ok (Fk.refl _)
theorem ov_low (h : Has T bs j 4 lowIR 2 []) : OvP T bs mt j ovLow := fun d xs xs' q hd hq g => by
  obtain ⟨a, b, rfl, hq⟩ := a2_some hq
  cases a <;> try cases hq
  cases b <;> try cases hq
  obtain ⟨p1, hq⟩ := gd_some hq
  obtain ⟨p2, hq⟩ := gd_some hq
  simp only [lowG_eq, addN_eq, mulN_eq, subN_eq, ltF_eq] at hq
  cases hq
  rw [k2 (by simp [known]) (by simp [known]) g]
  obtain ⟨m, rfl⟩ : ∃ m, d = m + 1 := ⟨d - 1, by omega⟩
  rw [low_ h (posI_ok p1) (mid_big p2)]
  exact RR.ok (Fk.refl _)
theorem ov_ratio (hw : Has T bs w 2 wholeIR 2 [.none]) (hc : Has T bs c 2 commonIR 2 []) (h : Has T bs j 3 (ratioIR w c e) 2 [.int 1]) : OvP T bs mt j ovLow := fun d xs xs' q hd hq g => by
  obtain ⟨a, b, rfl, hq⟩ := a2_some hq
  cases a <;> try cases hq
  cases b <;> try cases hq
  obtain ⟨p1, hq⟩ := gd_some hq
  obtain ⟨p2, hq⟩ := gd_some hq
  simp only [lowG_eq, addN_eq, mulN_eq, subN_eq, ltF_eq] at hq
  cases hq
  rw [k2 (by simp [known]) (by simp [known]) g]
  obtain ⟨m, rfl⟩ : ∃ m, d = m + 2 := ⟨d - 2, by omega⟩
  rw [ratio_ hw hc h (posI_ok p1) (mid_big p2)]
  exact RR.ok (Fk.refl _)
theorem ov_isr (hw : Has T bs w 2 wholeIR 2 [.none]) (hc : Has T bs c 2 commonIR 2 []) (h : Has T bs j 1 (isrIR w c) 1 []) : OvP T bs mt j ovIsr := fun d xs xs' q hd hq g => by
  obtain ⟨a, rfl, hq⟩ := a1_some hq
  obtain ⟨t, b, rfl, hq⟩ := fF_some hq
  obtain ⟨p1, hq⟩ := gd_some hq
  cases hq
  rw [k1 known_fr g]
  obtain ⟨m, rfl⟩ : ∃ m, d = m + 2 := ⟨d - 2, by omega⟩
  rw [isr hw hc h (mid_big p1)]
  have e : cF (posI b) (Nat.beq (Int.gcd t b) 1) false = (decide (1 ≤ b) && decide (Int.gcd t b = 1)) := by
    rw [cF_eq]
    by_cases z : posI b = true
    · rw [if_pos z, decide_eq_true (show 1 ≤ b from posI_ok z), Bool.true_and, Bool.eq_iff_iff, Nat.beq_eq, decide_eq_true_eq]
    · rw [if_neg z, decide_eq_false (fun y : 1 ≤ b => z (by
        cases b with
        | ofNat n => have y : (1 : Int) ≤ (n : Int) := y; show Nat.blt 0 n = true; rw [Nat.blt_eq]; omega
        | negSucc n => omega)), Bool.false_and]
  rw [e]
  exact RR.ok (Fk.refl _)
/-- a def that gives lowest terms of its second -/
def LowAt (T : Tab) (bs : List (Nat × IS)) (mt : Nat → Nat → Option Bool) (r : Nat) : Prop := ∀ (d : Nat) (t b : Int), 0 < b → b.natAbs < big9 → callT T (runs T bs mt (d + 2)) r [.int t, .int b] = .ok (lowP t b)
theorem lowAt1 (hw : Has T bs w 2 wholeIR 2 [.none]) (hc : Has T bs c 2 commonIR 2 []) (h : Has T bs r 3 (ratioIR w c e) 2 [.int 1]) : LowAt T bs mt r := fun d t b h1 h2 => ratio_ hw hc h h1 h2
theorem lowAt2 (h : Has T bs r 4 lowIR 2 []) : LowAt T bs mt r := fun d t b h1 h2 => low_ h h1 h2
theorem ov_add (hr : LowAt T bs mt r) (h : Has T bs j 2 (addIR r) 2 []) : OvP T bs mt j ovAdd := fun d xs xs' q hd hq g => by
  obtain ⟨x, y, rfl, hq⟩ := a2_some hq
  obtain ⟨t, b, rfl, hq⟩ := fF_some hq
  obtain ⟨u, v, rfl, hq⟩ := fF_some hq
  obtain ⟨p1, hq⟩ := gd_some hq
  obtain ⟨p2, hq⟩ := gd_some hq
  obtain ⟨m1, m2, m3, m4, hq⟩ := mids_some hq
  simp only [lowG_eq, addN_eq, mulN_eq, subN_eq, ltF_eq] at hq
  cases hq
  rw [k2 known_fr known_fr g]
  obtain ⟨m, rfl⟩ : ∃ m, d = m + 2 + 1 := ⟨d - 3, by omega⟩
  rw [add_ m1 m2 m3 m4 h, hr m _ _ (Int.mul_pos (posI_ok p1) (posI_ok p2)) (mid_mul m2 m4)]
  exact RR.ok (Fk.refl _)
theorem ov_less (hr : LowAt T bs mt r) (h : Has T bs j 2 (lessIR r) 2 []) : OvP T bs mt j ovLess := fun d xs xs' q hd hq g => by
  obtain ⟨x, y, rfl, hq⟩ := a2_some hq
  obtain ⟨t, b, rfl, hq⟩ := fF_some hq
  obtain ⟨u, v, rfl, hq⟩ := fF_some hq
  obtain ⟨p1, hq⟩ := gd_some hq
  obtain ⟨p2, hq⟩ := gd_some hq
  obtain ⟨m1, m2, m3, m4, hq⟩ := mids_some hq
  simp only [lowG_eq, addN_eq, mulN_eq, subN_eq, ltF_eq] at hq
  cases hq
  rw [k2 known_fr known_fr g]
  obtain ⟨m, rfl⟩ : ∃ m, d = m + 2 + 1 := ⟨d - 3, by omega⟩
  rw [less_ m1 m2 m3 m4 h, hr m _ _ (Int.mul_pos (posI_ok p1) (posI_ok p2)) (mid_mul m2 m4)]
  exact RR.ok (Fk.refl _)
theorem ov_times (hr : LowAt T bs mt r) (h : Has T bs j 2 (timesIR r) 2 []) : OvP T bs mt j ovTimes := fun d xs xs' q hd hq g => by
  obtain ⟨x, y, rfl, hq⟩ := a2_some hq
  obtain ⟨t, b, rfl, hq⟩ := fF_some hq
  obtain ⟨u, v, rfl, hq⟩ := fF_some hq
  obtain ⟨p1, hq⟩ := gd_some hq
  obtain ⟨p2, hq⟩ := gd_some hq
  obtain ⟨m1, m2, m3, m4, hq⟩ := mids_some hq
  simp only [lowG_eq, addN_eq, mulN_eq, subN_eq, ltF_eq] at hq
  cases hq
  rw [k2 known_fr known_fr g]
  obtain ⟨m, rfl⟩ : ∃ m, d = m + 2 + 1 := ⟨d - 3, by omega⟩
  rw [times_ m1 m2 m3 m4 h, hr m _ _ (Int.mul_pos (posI_ok p1) (posI_ok p2)) (mid_mul m2 m4)]
  exact RR.ok (Fk.refl _)
theorem ov_over (hr : LowAt T bs mt r) (h : Has T bs j 2 (overIR r e) 2 []) : OvP T bs mt j ovOver := fun d xs xs' q hd hq g => by
  obtain ⟨x, y, rfl, hq⟩ := a2_some hq
  obtain ⟨t, b, rfl, hq⟩ := fF_some hq
  obtain ⟨u, v, rfl, hq⟩ := fF_some hq
  obtain ⟨p1, hq⟩ := gd_some hq
  obtain ⟨p2, hq⟩ := gd_some hq
  obtain ⟨m1, m2, m3, m4, hq⟩ := mids_some hq
  simp only [lowG_eq, addN_eq, mulN_eq, subN_eq, ltF_eq] at hq
  cases hq
  rw [k2 known_fr known_fr g]
  obtain ⟨m, rfl⟩ : ∃ m, d = m + 2 + 1 := ⟨d - 3, by omega⟩
  have pu := posI_ok p2
  rw [over_ m1 m2 m3 m4 (by omega) h, hr m _ _ (Int.mul_pos (posI_ok p1) pu) (mid_mul m2 m3)]
  exact RR.ok (Fk.refl _)
theorem ov_under (h : Has T bs j 2 underIR 2 []) : OvP T bs mt j ovUnder := fun d xs xs' q hd hq g => by
  obtain ⟨x, y, rfl, hq⟩ := a2_some hq
  obtain ⟨t, b, rfl, hq⟩ := fF_some hq
  obtain ⟨u, v, rfl, hq⟩ := fF_some hq
  obtain ⟨m1, m2, m3, m4, hq⟩ := mids_some hq
  simp only [lowG_eq, addN_eq, mulN_eq, subN_eq, ltF_eq] at hq
  cases hq
  rw [k2 known_fr known_fr g]
  obtain ⟨m, rfl⟩ : ∃ m, d = m + 1 := ⟨d - 1, by omega⟩
  rw [under_ m1 m2 m3 m4 h]
  exact RR.ok (Fk.refl _)
/-! sums -/
def sumB (a : Nat) : IS := .set (.z []) 1 (.call a (.econs (.var 1) (.econs (.var 2) (.enil)))) (.done)
def sumIR (e0 : IE) (a : Nat) : IS := .set (.z []) 1 e0 (.for_ (.one 2) [] (.iseq (.var 0)) (sumB a) (.ret (.var 1)))
theorem sumG_known : ∀ {l : List PyData} {t b : Int} {q : R PyData}, sumG l t b = some q → knowns l = true
  | [], _, _, _, _ => by simp [knowns]
  | x :: l, t, b, q, h => by
    obtain ⟨u, v, rfl, h⟩ := fF_some (show fF x _ = some q from h)
    obtain ⟨p1, h⟩ := gd_some h
    obtain ⟨p2, h⟩ := gd_some h
    obtain ⟨m1, m2, m3, m4, h⟩ := mids_some h
    obtain ⟨i, k, e, h⟩ := fF_some h
    simp only [knowns, known_fr, Bool.true_and]
    exact sumG_known h
theorem sum_go {d a : Nat} (hr : LowAt T bs mt r) (ha : Has T bs a 2 (addIR r) 2 []) {L : PyData} : ∀ {l : List PyData} {t b : Int} {q : R PyData} {s : Sl}, sumG l t b = some q → (s = .un ∨ ∃ x, s = .sh x) →
    ∃ (t' b' : Int) (s' : Sl), q = .ok (fr t' b') ∧ forGo (.one 2) (exec (callT T (runs T bs mt (d + 3))) mt (sumB a)) l [.sh L, .sh (fr t b), s] = .ok (.next [.sh L, .sh (fr t' b'), s'])
  | [], t, b, q, s, h, _ => by
    have h : some (R.ok (fr t b)) = some q := h
    cases h
    exact ⟨t, b, s, rfl, rfl⟩
  | x :: l, t, b, q, s, h, hs => by
    obtain ⟨u, v, rfl, h⟩ := fF_some (show fF x _ = some q from h)
    obtain ⟨p1, h⟩ := gd_some h
    obtain ⟨p2, h⟩ := gd_some h
    obtain ⟨m1, m2, m3, m4, h⟩ := mids_some h
    obtain ⟨i, k, ek, h⟩ := fF_some h
    obtain ⟨t', b', s', e1, e2⟩ := sum_go (d := d) hr ha (L := L) (s := .sh (fr u v)) h (.inr ⟨_, rfl⟩)
    refine ⟨t', b', s', e1, ?_⟩
    have c1 : callT T (runs T bs mt (d + 3)) a [fr t b, fr u v] = .ok (fr i k) := by
      rw [show d + 3 = d + 2 + 1 by omega, add_ m1 m2 m3 m4 ha, hr d _ _ (Int.mul_pos (posI_ok p1) (posI_ok p2)) (mid_mul m2 m4)]
      rw [lowG_eq, addN_eq, mulN_eq, mulN_eq, mulN_eq] at ek
      exact congrArg R.ok ek
    have c2 : exec (callT T (runs T bs mt (d + 3))) mt (sumB a) [.sh L, .sh (fr t b), .sh (fr u v)] = .ok (.next [.sh L, .sh (fr i k), .sh (fr u v)]) := by
      simp [sumB, DL.exec, ev, sv, bok, ut, cd, hideAt, give, c1]
    unfold forGo
    show ((exec (callT T (runs T bs mt (d + 3))) mt (sumB a) [.sh L, .sh (fr t b), .sh (fr u v)]).bind _) = _
    rw [c2]
    exact e2
theorem ov_sum {e0 : IE} {a : Nat} (he : ∀ call ρ, ev call e0 ρ = .ok (fr 0 1)) (hr : LowAt T bs mt r) (ha : Has T bs a 2 (addIR r) 2 []) (h : Has T bs j 3 (sumIR e0 a) 1 []) : OvP T bs mt j ovSum := fun d xs xs' q hd hq g => by
  obtain ⟨x, rfl, hq⟩ := a1_some hq
  obtain ⟨m, rfl⟩ : ∃ m, d = m + 3 + 1 := ⟨d - 4, by omega⟩
  have key : ∀ (L : PyData) (l : List PyData), (L = .list l ∨ L = .tuple l) → sumG l 0 1 = some q → FkA [L] xs' → RR Fk q (callT T (runs T bs mt (m + 3 + 1)) j xs') := fun L l hL hs g => by
    have kn := sumG_known hs
    have e1 : xs' = [L] := k1 (by rcases hL with rfl | rfl <;> simp only [known] <;> exact kn) g
    subst e1
    rw [call_eq h]
    obtain ⟨t', b', s', rfl, e2⟩ := sum_go (d := m) hr ha (L := L) (s := .un) hs (.inl rfl)
    have e3 : seqOf L = .ok l := by rcases hL with rfl | rfl <;> rfl
    have e4 : exec (callT T (runs T bs mt (m + 3))) mt (sumIR e0 a) [.sh L, .un, .un] = .ok (.ret (fr t' b')) := by
      simp only [sumIR, DL.exec, he, bok]
      have e5 : hideAt [] 0 ((give [] [Sl.sh L, .un, .un]).set 1 (.sh (fr 0 1))) = [.sh L, .sh (fr 0 1), .un] := rfl
      rw [e5]
      simp only [ev, List.getElem?_cons_zero, sv, bok, e3, forD]
      show R.next (forGo (.one 2) (exec (callT T (runs T bs mt (m + 3))) mt (sumB a)) l [.sh L, .sh (fr 0 1), .un]) _ = _
      rw [e2]
      rfl
    have e6 : envOf 3 ([L] ++ List.drop (([] : List PyData).length - (1 - [L].length)) []) = [.sh L, .un, .un] := rfl
    rw [e6, e4]
    exact RR.ok (Fk.refl _)
  cases x <;> try cases hq
  · exact key _ _ (.inl rfl) hq g
  · exact key _ _ (.inr rfl) hq g
end
end Q
end DL
/-! Typed code: functions over plain numbers, pairs and lists, in continuation style, that tell what the reader reads. -/
namespace DL.TC
open PySem PySem.Spec PyProof.Rows L2
abbrev C (α : Type) : Type := (α → Bool) → Bool
noncomputable section
abbrev V {α : Type} (a : α) : C α := fun k => k a
def G (b r : Bool) : Bool := Bool.rec (motive := fun _ => Bool) false r b
/-- x if b, else y -/
def cB (b x y : Bool) : Bool := Bool.rec (motive := fun _ => Bool) y x b
def andC (b : Bool) (m : C Bool) (k : Bool → Bool) : Bool := Bool.rec (motive := fun _ => Bool) (k false) (m k) b
def orC (b : Bool) (m : C Bool) (k : Bool → Bool) : Bool := Bool.rec (motive := fun _ => Bool) (m k) (k true) b
def iteC {α : Type} (b : Bool) (m n : C α) (k : α → Bool) : Bool := Bool.rec (motive := fun _ => Bool) (n k) (m k) b
def nB (b : Bool) : Bool := Bool.rec (motive := fun _ => Bool) true false b
end
theorem G_ok {b r : Bool} (h : G b r = true) : b = true ∧ r = true := by
  cases b with
  | true => exact ⟨rfl, h⟩
  | false => cases h
theorem cB_ok {b x y : Bool} (h : cB b x y = true) : (b = true ∧ x = true) ∨ (b = false ∧ y = true) := by
  cases b with
  | true => exact .inl ⟨rfl, h⟩
  | false => exact .inr ⟨rfl, h⟩
theorem nB_eq (b : Bool) : nB b = !b := by cases b <;> rfl

/-! ### encoders -/
section
variable {α β γ δ : Type}
def eI (i : Int) : PyData := .int i
def eN (n : Nat) : PyData := .int (Int.ofNat n)
def eB (b : Bool) : PyData := .bool b
def eU (_ : Unit) : PyData := .none
def eS (x : Str) : PyData := .str x
def eD (d : PyData) : PyData := d
def eP (ea : α → PyData) (eb : β → PyData) (p : α × β) : PyData := .tuple [ea p.1, eb p.2]
def eP3 (ea : α → PyData) (eb : β → PyData) (ec : γ → PyData) (p : α × β × γ) : PyData := .tuple [ea p.1, eb p.2.1, ec p.2.2]
def eP4 (ea : α → PyData) (eb : β → PyData) (ec : γ → PyData) (ed : δ → PyData) (p : α × β × γ × δ) : PyData := .tuple [ea p.1, eb p.2.1, ec p.2.2.1, ed p.2.2.2]
def eT (e : α → PyData) (xs : List α) : PyData := .tuple (xs.map e)
def eL (e : α → PyData) (xs : List α) : PyData := .list (xs.map e)
def eO (e : α → PyData) (o : Option α) : PyData := match o with
  | none => .none
  | some a => e a
/-- numbers by their rests -/
def eQ (p : Nat × Nat) : PyData := rst (Int.ofNat p.1) (Int.ofNat p.2)
def Pu (e : α → PyData) : Prop := ∀ a, pure? (e a) = true
theorem pu_I : Pu eI := fun _ => by simp only [eI, pure?]
theorem pu_N : Pu eN := fun _ => by simp only [eN, pure?]
theorem pu_B : Pu eB := fun _ => by simp only [eB, pure?]
theorem pu_U : Pu eU := fun _ => by simp only [eU, pure?]
theorem pu_S : Pu eS := fun _ => by simp only [eS, pure?]
theorem pus {e : α → PyData} (h : Pu e) (xs : List α) : pures (xs.map e) = true := by
  induction xs with
  | nil => simp only [List.map_nil, pures]
  | cons x xs ih => simp only [List.map_cons, pures, h x, ih, Bool.and_self]
theorem pu_T {e : α → PyData} (h : Pu e) : Pu (eT e) := fun xs => by simp only [eT, pure?]; exact pus h xs
theorem pu_P {ea : α → PyData} {eb : β → PyData} (h : Pu ea) (g : Pu eb) : Pu (eP ea eb) := fun p => by simp only [eP, pure?, pures, h p.1, g p.2, Bool.and_self]
theorem pu_P3 {ea : α → PyData} {eb : β → PyData} {ec : γ → PyData} (h : Pu ea) (g : Pu eb) (i : Pu ec) : Pu (eP3 ea eb ec) := fun p => by simp only [eP3, pure?, pures, h p.1, g p.2.1, i p.2.2, Bool.and_self]
theorem pu_P4 {ea : α → PyData} {eb : β → PyData} {ec : γ → PyData} {ed : δ → PyData} (h : Pu ea) (g : Pu eb) (i : Pu ec) (j : Pu ed) : Pu (eP4 ea eb ec ed) := fun p => by simp only [eP4, pure?, pures, h p.1, g p.2.1, i p.2.2.1, j p.2.2.2, Bool.and_self]
theorem pu_O {e : α → PyData} (h : Pu e) : Pu (eO e) := fun o => by
  cases o with
  | none => simp only [eO, pure?]
  | some a => exact h a
/-- fractions -/
abbrev eF := eP eN eN
abbrev eZ := eP eI eN
theorem pu_F : Pu eF := pu_P pu_N pu_N
theorem pu_Z : Pu eZ := pu_P pu_I pu_N
end

/-! ### expressions -/
def look (ρ : Env) (i : Nat) : Option PyData := match ρ, i with
  | [], _ => none
  | s :: _, 0 => s.val
  | _ :: r, i + 1 => look r i
theorem look_eq : ∀ (ρ : Env) (i : Nat), look ρ i = (ρ[i]?).bind Sl.val
  | [], i => by simp [look]
  | s :: r, 0 => by simp [look]
  | s :: r, i + 1 => by rw [List.getElem?_cons_succ, ← look_eq r i]; rfl
def OkE (call : Nat → List PyData → R PyData) {α : Type} (ρ : Env) (e : IE) (enc : α → PyData) (m : C α) : Prop := ∀ k, m k = true → ∃ a, ev call e ρ = .ok (enc a) ∧ k a = true
section
variable {call : Nat → List PyData → R PyData} {α β γ δ ε : Type} {ρ : Env} {a b c e : IE} {ea : α → PyData} {eb : β → PyData} {ec : γ → PyData} {ed : δ → PyData} {ee : ε → PyData} {ma : C α} {mb : C β} {mc : C γ} {md : C δ} {me : C ε}
theorem E_var {i : Nat} {x : α} (h : look ρ i = some (ea x)) : OkE call ρ (.var i) ea (V x) := fun k hk => by
  rw [look_eq] at h
  refine ⟨x, ?_, hk⟩
  simp only [ev]
  cases q : ρ[i]? with
  | none => rw [q] at h; cases h
  | some s =>
    rw [q] at h
    simp only [Option.bind_some] at h
    dsimp only
    rw [h]
theorem E_num (n : Nat) : OkE call ρ (.int (Int.ofNat n)) eN (V n) := fun k hk => ⟨n, by simp only [ev, eN], hk⟩
theorem E_int (i : Int) : OkE call ρ (.int i) eI (V i) := fun k hk => ⟨i, by simp only [ev, eI], hk⟩
theorem E_bl (x : Bool) : OkE call ρ (.bl x) eB (V x) := fun k hk => ⟨x, by simp only [ev, eB], hk⟩
theorem E_non : OkE call ρ .non eU (V ()) := fun k hk => ⟨(), by simp only [ev, eU], hk⟩
theorem E_nonO : OkE call ρ .non (eO ea) (V none) := fun k hk => ⟨none, by simp only [ev, eO], hk⟩
theorem E_str (x : Str) : OkE call ρ (.str x) eS (V x) := fun k hk => ⟨x, by simp only [ev, eS], hk⟩
theorem E_glob {j : Nat} {d : PyData} (x : α) (h : d = ea x) : OkE call ρ (.glob j d) ea (V x) := fun k hk => ⟨x, by simp only [ev, h], hk⟩
/-- another type for the same data -/
theorem E_co (f : α → β) (hf : ∀ x, ea x = eb (f x)) (h : OkE call ρ a ea ma) : OkE call ρ a eb (fun k => ma fun x => k (f x)) := fun k hk => by
  obtain ⟨x, e1, h1⟩ := h _ hk
  exact ⟨f x, by rw [e1, hf], h1⟩
/-- another type, if it fits -/
theorem E_if (f : α → C β) (hf : ∀ x k, f x k = true → ∃ y, ea x = eb y ∧ k y = true) (h : OkE call ρ a ea ma) : OkE call ρ a eb (fun k => ma fun x => f x k) := fun k hk => by
  obtain ⟨x, e1, h1⟩ := h _ hk
  obtain ⟨y, e2, h2⟩ := hf _ _ h1
  exact ⟨y, by rw [e1, e2], h2⟩
def Op2 (o : Bop) (ea : α → PyData) (eb : β → PyData) (ec : γ → PyData) (f : α → β → C γ) : Prop := ∀ x y k, f x y k = true → ∃ z, binD o (ea x) (eb y) = .ok (ec z) ∧ k z = true
theorem E_bin {o : Bop} {f : α → β → C γ} (hf : Op2 o ea eb ec f) (h1 : OkE call ρ a ea ma) (h2 : OkE call ρ b eb mb) : OkE call ρ (.bin o a b) ec (fun k => ma fun x => mb fun y => f x y k) := fun k hk => by
  obtain ⟨x, e1, hk⟩ := h1 _ hk
  obtain ⟨y, e2, hk⟩ := h2 _ hk
  obtain ⟨z, e3, hk⟩ := hf _ _ _ hk
  exact ⟨z, by simp only [ev, e1, e2, R.bind, e3], hk⟩
def Cmp2 (o : Cop) (ea : α → PyData) (eb : β → PyData) (f : α → β → Bool) : Prop := ∀ x y, cmpD o (ea x) (eb y) = .ok (f x y)
theorem E_cmp {o : Cop} {f : α → β → Bool} (hf : Cmp2 o ea eb f) (h1 : OkE call ρ a ea ma) (h2 : OkE call ρ b eb mb) : OkE call ρ (.cmp o a b) eB (fun k => ma fun x => mb fun y => k (f x y)) := fun k hk => by
  obtain ⟨x, e1, hk⟩ := h1 _ hk
  obtain ⟨y, e2, hk⟩ := h2 _ hk
  exact ⟨_, by simp only [ev, e1, e2, R.bind, hf x y, eB], hk⟩
/-- against None -/
def Cmp1 (o : Cop) (ea : α → PyData) (f : α → Bool) : Prop := ∀ x, cmpD o (ea x) .none = .ok (f x)
theorem E_cmp1 {o : Cop} {f : α → Bool} (hf : Cmp1 o ea f) (h1 : OkE call ρ a ea ma) : OkE call ρ (.cmp o a .non) eB (fun k => ma fun x => k (f x)) := fun k hk => by
  obtain ⟨x, e1, hk⟩ := h1 _ hk
  exact ⟨_, by simp only [ev, e1, R.bind, hf x, eB], hk⟩
theorem E_chain {o o' : Cop} {f : α → β → Bool} {g : β → γ → Bool} (hf : Cmp2 o ea eb f) (hg : Cmp2 o' eb ec g) (h1 : OkE call ρ a ea ma) (h2 : OkE call ρ b eb mb) (h3 : OkE call ρ c ec mc) :
    OkE call ρ (.chain o o' a b c) eB (fun k => ma fun x => mb fun y => andC (f x y) (fun k => mc fun z => k (g y z)) k) := fun k hk => by
  obtain ⟨x, e1, hk⟩ := h1 _ hk
  obtain ⟨y, e2, hk⟩ := h2 _ hk
  rcases cB_ok (show cB _ _ _ = true from hk) with ⟨q, hk⟩ | ⟨q, hk⟩
  · obtain ⟨z, e3, hk⟩ := h3 _ hk
    exact ⟨_, by simp only [ev, e1, e2, e3, R.bind, hf x y, hg y z, q, eB, if_true], hk⟩
  · exact ⟨_, by simp only [ev, e1, e2, R.bind, hf x y, q, eB]; rfl, hk⟩
/-- how a value counts as a truth -/
def Tru (ea : α → PyData) (f : α → Bool) : Prop := ∀ x, truth (ea x) = .ok (f x)
theorem tru_B : Tru eB fun b => b := fun _ => rfl
theorem E_not {f : α → Bool} (ht : Tru ea f) (h : OkE call ρ a ea ma) : OkE call ρ (.not a) eB (fun k => ma fun x => k (nB (f x))) := fun k hk => by
  obtain ⟨x, e1, hk⟩ := h _ hk
  exact ⟨_, by simp only [ev, e1, R.bind, ht x, eB, nB_eq], hk⟩
theorem E_and {ma mb : C Bool} (h1 : OkE call ρ a eB ma) (h2 : OkE call ρ b eB mb) : OkE call ρ (.and a b) eB (fun k => ma fun x => andC x mb k) := fun k hk => by
  obtain ⟨x, e1, hk⟩ := h1 _ hk
  rcases cB_ok (show cB _ _ _ = true from hk) with ⟨q, hk⟩ | ⟨q, hk⟩
  · obtain ⟨y, e2, hk⟩ := h2 _ hk
    exact ⟨y, by simp only [ev, e1, R.bind, q, tru_B true, if_true, e2], hk⟩
  · exact ⟨false, by simp only [ev, e1, R.bind, q, tru_B false]; rfl, hk⟩
theorem E_or {ma mb : C Bool} (h1 : OkE call ρ a eB ma) (h2 : OkE call ρ b eB mb) : OkE call ρ (.or a b) eB (fun k => ma fun x => orC x mb k) := fun k hk => by
  obtain ⟨x, e1, hk⟩ := h1 _ hk
  rcases cB_ok (show cB _ _ _ = true from hk) with ⟨q, hk⟩ | ⟨q, hk⟩
  · exact ⟨true, by simp only [ev, e1, R.bind, q, tru_B true, if_true], hk⟩
  · obtain ⟨y, e2, hk⟩ := h2 _ hk
    exact ⟨y, by simp only [ev, e1, R.bind, q, tru_B false]; exact e2, hk⟩
theorem E_one (h : OkE call ρ a ea ma) : OkE call ρ (.one a) ea ma := fun k hk => by
  obtain ⟨x, e1, hk⟩ := h _ hk
  exact ⟨x, by simp only [ev, e1], hk⟩
theorem E_ite {mc : C α} {f : α → Bool} {mx my : C β} (ht : Tru ea f) (h1 : OkE call ρ c ea mc) (h2 : OkE call ρ a eb mx) (h3 : OkE call ρ b eb my) : OkE call ρ (.ite c a b) eb (fun k => mc fun x => iteC (f x) mx my k) := fun k hk => by
  obtain ⟨x, e1, hk⟩ := h1 _ hk
  rcases cB_ok (show cB _ _ _ = true from hk) with ⟨q, hk⟩ | ⟨q, hk⟩
  · obtain ⟨y, e2, hk⟩ := h2 _ hk
    exact ⟨y, by simp only [ev, e1, R.bind, ht x, q, if_true, e2], hk⟩
  · obtain ⟨y, e2, hk⟩ := h3 _ hk
    exact ⟨y, by simp only [ev, e1, R.bind, ht x, q]; exact e2, hk⟩
/-! tuples, lists -/
theorem E_nil : OkE call ρ .enil (eT ea) (V []) := fun k hk => ⟨[], by simp only [ev, eT, List.map_nil], hk⟩
theorem E_cons {mt : C (List α)} (h1 : OkE call ρ a ea ma) (h2 : OkE call ρ b (eT ea) mt) : OkE call ρ (.econs a b) (eT ea) (fun k => ma fun x => mt fun xs => k (x :: xs)) := fun k hk => by
  obtain ⟨x, e1, hk⟩ := h1 _ hk
  obtain ⟨y, e2, hk⟩ := h2 _ hk
  exact ⟨_, by simp only [ev, e1, e2, R.bind, eT, consD, List.map_cons], hk⟩
theorem E_es2 (h1 : OkE call ρ a ea ma) (h2 : OkE call ρ b eb mb) : OkE call ρ (.econs a (.econs b .enil)) (eP ea eb) (fun k => ma fun x => mb fun y => k (x, y)) := fun k hk => by
  obtain ⟨x, e1, hk⟩ := h1 _ hk
  obtain ⟨y, e2, hk⟩ := h2 _ hk
  exact ⟨_, by simp only [ev, e1, e2, R.bind, eP, consD], hk⟩
theorem E_es3 (h1 : OkE call ρ a ea ma) (h2 : OkE call ρ b eb mb) (h3 : OkE call ρ c ec mc) : OkE call ρ (.econs a (.econs b (.econs c .enil))) (eP3 ea eb ec) (fun k => ma fun x => mb fun y => mc fun z => k (x, y, z)) := fun k hk => by
  obtain ⟨x, e1, hk⟩ := h1 _ hk
  obtain ⟨y, e2, hk⟩ := h2 _ hk
  obtain ⟨z, e3, hk⟩ := h3 _ hk
  exact ⟨_, by simp only [ev, e1, e2, e3, R.bind, eP3, consD], hk⟩
theorem E_es4 {d : IE} (h1 : OkE call ρ a ea ma) (h2 : OkE call ρ b eb mb) (h3 : OkE call ρ c ec mc) (h4 : OkE call ρ d ed md) : OkE call ρ (.econs a (.econs b (.econs c (.econs d .enil)))) (eP4 ea eb ec ed) (fun k => ma fun x => mb fun y => mc fun z => md fun w => k (x, y, z, w)) := fun k hk => by
  obtain ⟨x, e1, hk⟩ := h1 _ hk
  obtain ⟨y, e2, hk⟩ := h2 _ hk
  obtain ⟨z, e3, hk⟩ := h3 _ hk
  obtain ⟨w, e4, hk⟩ := h4 _ hk
  exact ⟨_, by simp only [ev, e1, e2, e3, e4, R.bind, eP4, consD], hk⟩
theorem E_tup (h : OkE call ρ a ea ma) : OkE call ρ (.tup a) ea ma := fun k hk => by
  obtain ⟨x, e1, hk⟩ := h _ hk
  exact ⟨x, by simp only [ev, e1], hk⟩
theorem E_lst {mt : C (List α)} (h : OkE call ρ a (eT ea) mt) : OkE call ρ (.lst a) (eL ea) mt := fun k hk => by
  obtain ⟨x, e1, hk⟩ := h _ hk
  exact ⟨x, by simp only [ev, e1, R.bind, eT, eL, lstD], hk⟩
/-! parts -/
def Sub2 (ea : α → PyData) (eb : β → PyData) (ec : γ → PyData) (f : α → β → C γ) : Prop := ∀ x y k, f x y k = true → ∃ z, subD (ea x) (eb y) = .ok (ec z) ∧ k z = true
theorem E_sub {f : α → β → C γ} (hf : Sub2 ea eb ec f) (h1 : OkE call ρ a ea ma) (h2 : OkE call ρ b eb mb) : OkE call ρ (.sub a b) ec (fun k => ma fun x => mb fun y => f x y k) := fun k hk => by
  obtain ⟨x, e1, hk⟩ := h1 _ hk
  obtain ⟨y, e2, hk⟩ := h2 _ hk
  obtain ⟨z, e3, hk⟩ := hf _ _ _ hk
  exact ⟨z, by simp only [ev, e1, e2, R.bind, e3], hk⟩
/-- at a written place -/
def SubK (ea : α → PyData) (i : Int) (ec : γ → PyData) (f : α → C γ) : Prop := ∀ x k, f x k = true → ∃ z, subD (ea x) (.int i) = .ok (ec z) ∧ k z = true
theorem E_subk {i : Int} {f : α → C γ} (hf : SubK ea i ec f) (h1 : OkE call ρ a ea ma) : OkE call ρ (.sub a (.int i)) ec (fun k => ma fun x => f x k) := fun k hk => by
  obtain ⟨x, e1, hk⟩ := h1 _ hk
  obtain ⟨z, e3, hk⟩ := hf _ _ hk
  exact ⟨z, by simp only [ev, e1, R.bind, e3], hk⟩
theorem E_subm {i : Int} {f : α → C γ} (hf : SubK ea (-i) ec f) (h1 : OkE call ρ a ea ma) : OkE call ρ (.sub a (.neg (.int i))) ec (fun k => ma fun x => f x k) := fun k hk => by
  obtain ⟨x, e1, hk⟩ := h1 _ hk
  obtain ⟨z, e3, hk⟩ := hf _ _ hk
  exact ⟨z, by simp only [ev, e1, R.bind, negD, e3], hk⟩
/-- the ends of a part -/
def OkP (call : Nat → List PyData → R PyData) (ρ : Env) (e : IE) (m : C (Option Nat)) : Prop := ∀ k, m k = true → ∃ o : Option Nat, (∃ d, ev call e ρ = .ok d ∧ partD d = .ok (o.map Int.ofNat)) ∧ k o = true
theorem P_no : OkP call ρ .nopart (V none) := fun k hk => ⟨none, ⟨.none, by simp only [ev], rfl⟩, hk⟩
theorem P_at {m : C Nat} (h : OkE call ρ a eN m) : OkP call ρ (.part a) (fun k => m fun n => k (some n)) := fun k hk => by
  obtain ⟨x, e1, hk⟩ := h _ hk
  exact ⟨_, ⟨_, by simp only [ev, e1, R.bind, eN, numD]; rfl, rfl⟩, hk⟩
noncomputable section
def takeN (n : Nat) : List α → List α := Nat.rec (motive := fun _ => List α → List α) (fun _ => []) (fun _ ih xs => List.rec (motive := fun _ => List α) [] (fun x t _ => x :: ih t) xs) n
def dropN (n : Nat) : List α → List α := Nat.rec (motive := fun _ => List α → List α) (fun xs => xs) (fun _ ih xs => List.rec (motive := fun _ => List α) [] (fun _ t _ => ih t) xs) n
def slN (lo hi : Option Nat) (xs : List α) : List α := Option.rec (motive := fun _ => List α) (Option.rec (motive := fun _ => List α) xs (fun h => takeN h xs) hi) (fun l => Option.rec (motive := fun _ => List α) (dropN l xs) (fun h => takeN (Nat.sub h l) (dropN l xs)) hi) lo
end
theorem takeN_eq : ∀ (n : Nat) (xs : List α), takeN n xs = xs.take n
  | 0, _ => rfl
  | n + 1, [] => rfl
  | n + 1, x :: xs => by rw [List.take_succ_cons, ← takeN_eq n xs]; rfl
theorem dropN_eq : ∀ (n : Nat) (xs : List α), dropN n xs = xs.drop n
  | 0, _ => rfl
  | n + 1, [] => rfl
  | n + 1, x :: xs => by rw [List.drop_succ_cons, ← dropN_eq n xs]; rfl
theorem cut_nat (xs : List PyData) (lo hi : Option Nat) : cutD xs (lo.map Int.ofNat) (hi.map Int.ofNat) = slN lo hi xs := by
  unfold cutD slN
  cases lo with
  | none =>
    cases hi with
    | none =>
      show (xs.drop 0).take (xs.length - 0) = xs
      simp
    | some h =>
      show (xs.drop 0).take (HT.sIx xs.length xs.length (some (h : Int)) - 0) = takeN h xs
      rw [takeN_eq, HT.sIx_nat]
      simp [List.take_eq_take_iff]
  | some l =>
    cases hi with
    | none =>
      show (xs.drop (HT.sIx xs.length 0 (some (l : Int)))).take (xs.length - HT.sIx xs.length 0 (some (l : Int))) = dropN l xs
      rw [dropN_eq, HT.sIx_nat]
      have e : (xs.drop (min l xs.length)).length = xs.length - min l xs.length := List.length_drop
      rw [← e, List.take_length]
      by_cases z : l ≤ xs.length
      · rw [Nat.min_eq_left z]
      · rw [Nat.min_eq_right (by omega), List.drop_eq_nil_of_le (Nat.le_refl _), List.drop_eq_nil_of_le (by omega)]
    | some h =>
      show (xs.drop (HT.sIx xs.length 0 (some (l : Int)))).take (HT.sIx xs.length xs.length (some (h : Int)) - HT.sIx xs.length 0 (some (l : Int))) = takeN (h - l) (dropN l xs)
      rw [dropN_eq, takeN_eq, HT.sIx_nat, HT.sIx_nat]
      by_cases z : l ≤ xs.length
      · rw [Nat.min_eq_left z]
        by_cases y : h ≤ xs.length
        · rw [Nat.min_eq_left y]
        · rw [Nat.min_eq_right (by omega), List.take_of_length_le (by rw [List.length_drop]; omega), List.take_of_length_le (by rw [List.length_drop]; omega)]
      · rw [Nat.min_eq_right (show xs.length ≤ l by omega), List.drop_eq_nil_of_le (Nat.le_refl _), List.drop_eq_nil_of_le (by omega), List.take_nil, List.take_nil]
theorem slN_map (f : α → β) (lo hi : Option Nat) (xs : List α) : slN lo hi (xs.map f) = (slN lo hi xs).map f := by
  unfold slN
  cases lo <;> cases hi <;> simp only [takeN_eq, dropN_eq, List.map_take, List.map_drop]
theorem E_sliceT {mt : C (List α)} {ml mh : C (Option Nat)} (h1 : OkE call ρ a (eT ea) mt) (h2 : OkP call ρ b ml) (h3 : OkP call ρ c mh) : OkE call ρ (.slice a b c) (eT ea) (fun k => mt fun xs => ml fun lo => mh fun hi => k (slN lo hi xs)) := fun k hk => by
  obtain ⟨x, e1, hk⟩ := h1 _ hk
  obtain ⟨lo, ⟨d1, e2, e3⟩, hk⟩ := h2 _ hk
  obtain ⟨hi, ⟨d2, e4, e5⟩, hk⟩ := h3 _ hk
  exact ⟨_, by simp only [ev, e1, e2, e3, e4, e5, R.bind, eT, sliceD, cut_nat, slN_map], hk⟩
theorem E_sliceL {mt : C (List α)} {ml mh : C (Option Nat)} (h1 : OkE call ρ a (eL ea) mt) (h2 : OkP call ρ b ml) (h3 : OkP call ρ c mh) : OkE call ρ (.slice a b c) (eL ea) (fun k => mt fun xs => ml fun lo => mh fun hi => k (slN lo hi xs)) := fun k hk => by
  obtain ⟨x, e1, hk⟩ := h1 _ hk
  obtain ⟨lo, ⟨d1, e2, e3⟩, hk⟩ := h2 _ hk
  obtain ⟨hi, ⟨d2, e4, e5⟩, hk⟩ := h3 _ hk
  exact ⟨_, by simp only [ev, e1, e2, e3, e4, e5, R.bind, eL, sliceD, cut_nat, slN_map], hk⟩
/-! calls -/
def Sp1 (call : Nat → List PyData → R PyData) (j : Nat) (ea : α → PyData) (er : ε → PyData) (f : α → C ε) : Prop := ∀ x k, f x k = true → ∃ r, call j [ea x] = .ok (er r) ∧ k r = true
def Sp2 (call : Nat → List PyData → R PyData) (j : Nat) (ea : α → PyData) (eb : β → PyData) (er : ε → PyData) (f : α → β → C ε) : Prop := ∀ x y k, f x y k = true → ∃ r, call j [ea x, eb y] = .ok (er r) ∧ k r = true
def Sp3 (call : Nat → List PyData → R PyData) (j : Nat) (ea : α → PyData) (eb : β → PyData) (ec : γ → PyData) (er : ε → PyData) (f : α → β → γ → C ε) : Prop := ∀ x y z k, f x y z k = true → ∃ r, call j [ea x, eb y, ec z] = .ok (er r) ∧ k r = true
def Sp4 (call : Nat → List PyData → R PyData) (j : Nat) (ea : α → PyData) (eb : β → PyData) (ec : γ → PyData) (ed : δ → PyData) (er : ε → PyData) (f : α → β → γ → δ → C ε) : Prop := ∀ x y z w k, f x y z w k = true → ∃ r, call j [ea x, eb y, ec z, ed w] = .ok (er r) ∧ k r = true
theorem E_call1 {j : Nat} {f : α → C ε} (hf : Sp1 call j ea ee f) (h1 : OkE call ρ a ea ma) : OkE call ρ (.call j (.econs a .enil)) ee (fun k => ma fun x => f x k) := fun k hk => by
  obtain ⟨x, e1, hk⟩ := h1 _ hk
  obtain ⟨r, er, hk⟩ := hf _ _ hk
  exact ⟨r, by simp only [ev, e1, R.bind, consD, unT, er], hk⟩
theorem E_call2 {j : Nat} {f : α → β → C ε} (hf : Sp2 call j ea eb ee f) (h1 : OkE call ρ a ea ma) (h2 : OkE call ρ b eb mb) : OkE call ρ (.call j (.econs a (.econs b .enil))) ee (fun k => ma fun x => mb fun y => f x y k) := fun k hk => by
  obtain ⟨x, e1, hk⟩ := h1 _ hk
  obtain ⟨y, e2, hk⟩ := h2 _ hk
  obtain ⟨r, er, hk⟩ := hf _ _ _ hk
  exact ⟨r, by simp only [ev, e1, e2, R.bind, consD, unT, er], hk⟩
theorem E_call3 {j : Nat} {f : α → β → γ → C ε} (hf : Sp3 call j ea eb ec ee f) (h1 : OkE call ρ a ea ma) (h2 : OkE call ρ b eb mb) (h3 : OkE call ρ c ec mc) : OkE call ρ (.call j (.econs a (.econs b (.econs c .enil)))) ee (fun k => ma fun x => mb fun y => mc fun z => f x y z k) := fun k hk => by
  obtain ⟨x, e1, hk⟩ := h1 _ hk
  obtain ⟨y, e2, hk⟩ := h2 _ hk
  obtain ⟨z, e3, hk⟩ := h3 _ hk
  obtain ⟨r, er, hk⟩ := hf _ _ _ _ hk
  exact ⟨r, by simp only [ev, e1, e2, e3, R.bind, consD, unT, er], hk⟩
theorem E_call4 {d : IE} {j : Nat} {f : α → β → γ → δ → C ε} (hf : Sp4 call j ea eb ec ed ee f) (h1 : OkE call ρ a ea ma) (h2 : OkE call ρ b eb mb) (h3 : OkE call ρ c ec mc) (h4 : OkE call ρ d ed md) : OkE call ρ (.call j (.econs a (.econs b (.econs c (.econs d .enil))))) ee (fun k => ma fun x => mb fun y => mc fun z => md fun w => f x y z w k) := fun k hk => by
  obtain ⟨x, e1, hk⟩ := h1 _ hk
  obtain ⟨y, e2, hk⟩ := h2 _ hk
  obtain ⟨z, e3, hk⟩ := h3 _ hk
  obtain ⟨w, e4, hk⟩ := h4 _ hk
  obtain ⟨r, er, hk⟩ := hf _ _ _ _ _ hk
  exact ⟨r, by simp only [ev, e1, e2, e3, e4, R.bind, consD, unT, er], hk⟩
/-! built-ins -/
def Bl1 (t : Blt) (ea : α → PyData) (ec : γ → PyData) (f : α → C γ) : Prop := ∀ x k, f x k = true → ∃ z, bltD t [ea x] = .ok (ec z) ∧ k z = true
def Bl2 (t : Blt) (ea : α → PyData) (eb : β → PyData) (ec : γ → PyData) (f : α → β → C γ) : Prop := ∀ x y k, f x y k = true → ∃ z, bltD t [ea x, eb y] = .ok (ec z) ∧ k z = true
theorem E_blt1 {t : Blt} {f : α → C γ} (hf : Bl1 t ea ec f) (h1 : OkE call ρ a ea ma) : OkE call ρ (.blt t (.econs a .enil)) ec (fun k => ma fun x => f x k) := fun k hk => by
  obtain ⟨x, e1, hk⟩ := h1 _ hk
  obtain ⟨r, er, hk⟩ := hf _ _ hk
  exact ⟨r, by simp only [ev, e1, R.bind, consD, unT, er], hk⟩
theorem E_blt2 {t : Blt} {f : α → β → C γ} (hf : Bl2 t ea eb ec f) (h1 : OkE call ρ a ea ma) (h2 : OkE call ρ b eb mb) : OkE call ρ (.blt t (.econs a (.econs b .enil))) ec (fun k => ma fun x => mb fun y => f x y k) := fun k hk => by
  obtain ⟨x, e1, hk⟩ := h1 _ hk
  obtain ⟨y, e2, hk⟩ := h2 _ hk
  obtain ⟨r, er, hk⟩ := hf _ _ _ hk
  exact ⟨r, by simp only [ev, e1, e2, R.bind, consD, unT, er], hk⟩
/-! what is walked -/
theorem E_iseqT {mt : C (List α)} (h : OkE call ρ a (eT ea) mt) : OkE call ρ (.iseq a) (eL ea) mt := fun k hk => by
  obtain ⟨x, e1, hk⟩ := h _ hk
  exact ⟨x, by simp only [ev, e1, R.bind, eT, eL, seqOf], hk⟩
theorem E_iseqL {mt : C (List α)} (h : OkE call ρ a (eL ea) mt) : OkE call ρ (.iseq a) (eL ea) mt := fun k hk => by
  obtain ⟨x, e1, hk⟩ := h _ hk
  exact ⟨x, by simp only [ev, e1, R.bind, eL, seqOf], hk⟩
theorem E_iseqP {mp : C (α × α)} (h : OkE call ρ a (eP ea ea) mp) : OkE call ρ (.iseq a) (eL ea) (fun k => mp fun p => k [p.1, p.2]) := fun k hk => by
  obtain ⟨x, e1, hk⟩ := h _ hk
  exact ⟨_, by simp only [ev, e1, R.bind, eP, eL, seqOf, List.map_cons, List.map_nil], hk⟩
noncomputable section
def upto (n : Nat) : Nat → List Nat := Nat.rec (motive := fun _ => Nat → List Nat) (fun _ => []) (fun _ ih a => a :: ih (Nat.add a 1)) n
def enumN (k : Nat) (xs : List α) : List (Nat × α) := List.rec (motive := fun _ => Nat → List (Nat × α)) (fun _ => []) (fun x _ ih k => (k, x) :: ih (Nat.add k 1)) xs k
def zipN (xs : List α) : List β → List (α × β) := List.rec (motive := fun _ => List β → List (α × β)) (fun _ => []) (fun x _ ih ys => List.rec (motive := fun _ => List (α × β)) [] (fun y t _ => (x, y) :: ih t) ys) xs
def revA (xs : List α) : List α → List α := List.rec (motive := fun _ => List α → List α) (fun r => r) (fun x _ ih r => ih (x :: r)) xs
def revN (xs : List α) : List α := revA xs []
def lenN (xs : List α) : Nat := List.rec (motive := fun _ => Nat) 0 (fun _ _ r => Nat.add r 1) xs
def catN (xs ys : List α) : List α := List.rec (motive := fun _ => List α) ys (fun x _ r => x :: r) xs
end
theorem revA_eq : ∀ (xs r : List α), revA xs r = xs.reverse ++ r
  | [], r => rfl
  | x :: xs, r => by rw [List.reverse_cons, List.append_assoc]; exact revA_eq xs (x :: r)
theorem revN_eq (xs : List α) : revN xs = xs.reverse := by unfold revN; rw [revA_eq, List.append_nil]
theorem lenN_eq : ∀ xs : List α, lenN xs = xs.length
  | [] => rfl
  | x :: xs => by rw [List.length_cons, ← lenN_eq xs]; rfl
theorem catN_eq (ys : List α) : ∀ xs : List α, catN xs ys = xs ++ ys
  | [] => rfl
  | x :: xs => by rw [List.cons_append, ← catN_eq ys xs]; rfl
theorem upto_rng : ∀ (n a : Nat), (upto n a).map eN = rng (Int.ofNat a) n
  | 0, a => rfl
  | n + 1, a => by
    show eN a :: (upto n (a + 1)).map eN = _
    rw [upto_rng n (a + 1)]
    unfold rng
    rw [List.range_succ_eq_map, List.map_cons, List.map_map]
    congr 1
    apply List.map_congr_left
    intro i _
    simp only [Function.comp_apply]
    congr 1
    show ((a + 1 : Nat) : Int) + (i : Int) = (a : Int) + ((i + 1 : Nat) : Int)
    omega
theorem enumN_map (e : α → PyData) : ∀ (xs : List α) (k : Nat), (enumN k xs).map (eP eN e) = enumFrom k (xs.map e)
  | [], k => rfl
  | x :: xs, k => by
    show eP eN e (k, x) :: (enumN (k + 1) xs).map (eP eN e) = _
    rw [enumN_map e xs (k + 1)]
    rfl
theorem zipN_map (e : α → PyData) (f : β → PyData) : ∀ (xs : List α) (ys : List β), (zipN xs ys).map (eP e f) = zipD (xs.map e) (ys.map f)
  | [], ys => by simp only [List.map_nil, zipD]; rfl
  | x :: xs, [] => by simp only [List.map_nil, List.map_cons, zipD]; rfl
  | x :: xs, y :: ys => by
    show eP e f (x, y) :: (zipN xs ys).map (eP e f) = _
    rw [zipN_map e f xs ys]
    rfl
theorem bnd_nat {n : Nat} (h : Nat.blt n 4611686018427387904 = true) : bnd (Int.ofNat n) = true := h
theorem E_ir1 {m : C Nat} (h : OkE call ρ a eN m) : OkE call ρ (.ir1 a) (eL eN) (fun k => m fun n => G (Nat.blt n 4611686018427387904) (k (upto n 0))) := fun k hk => by
  obtain ⟨n, e1, hk⟩ := h _ hk
  obtain ⟨h1, hk⟩ := G_ok hk
  refine ⟨_, ?_, hk⟩
  simp only [ev, e1, R.bind, eN, r1D, bnd_nat h1, if_true, eL]
  exact congrArg (fun z => R.ok (PyData.list z)) (upto_rng n 0).symm
theorem E_ir1I {m : C Int} (h : OkE call ρ a eI m) : OkE call ρ (.ir1 a) (eL eN) (fun k => m fun i => G (bnd i) (k (upto i.toNat 0))) := fun k hk => by
  obtain ⟨n, e1, hk⟩ := h _ hk
  obtain ⟨h1, hk⟩ := G_ok hk
  refine ⟨_, ?_, hk⟩
  simp only [ev, e1, R.bind, eI, r1D, h1, if_true, eL]
  exact congrArg (fun z => R.ok (PyData.list z)) (upto_rng _ 0).symm
theorem E_ir2 {m1 m2 : C Nat} (h1 : OkE call ρ a eN m1) (h2 : OkE call ρ b eN m2) : OkE call ρ (.ir2 a b) (eL eN) (fun k => m1 fun x => m2 fun y => G (Nat.blt x 4611686018427387904) (G (Nat.blt y 4611686018427387904) (k (upto (Nat.sub y x) x)))) := fun k hk => by
  obtain ⟨x, e1, hk⟩ := h1 _ hk
  obtain ⟨y, e2, hk⟩ := h2 _ hk
  obtain ⟨g1, hk⟩ := G_ok hk
  obtain ⟨g2, hk⟩ := G_ok hk
  refine ⟨_, ?_, hk⟩
  simp only [ev, e1, e2, R.bind, eN, r2D, bnd_nat g1, bnd_nat g2, Bool.and_self, if_true, eL, upto_rng]
  have : (Int.ofNat y - Int.ofNat x).toNat = Nat.sub y x := by
    show ((y : Int) - (x : Int)).toNat = y - x
    omega
  rw [this]
theorem E_ienumT {mt : C (List α)} (h : OkE call ρ a (eT ea) mt) : OkE call ρ (.ienum a) (eL (eP eN ea)) (fun k => mt fun xs => k (enumN 0 xs)) := fun k hk => by
  obtain ⟨x, e1, hk⟩ := h _ hk
  exact ⟨_, by simp only [ev, e1, R.bind, eT, eL, seqOf, enumN_map], hk⟩
theorem E_ienumL {mt : C (List α)} (h : OkE call ρ a (eL ea) mt) : OkE call ρ (.ienum a) (eL (eP eN ea)) (fun k => mt fun xs => k (enumN 0 xs)) := fun k hk => by
  obtain ⟨x, e1, hk⟩ := h _ hk
  exact ⟨_, by simp only [ev, e1, R.bind, eL, seqOf, enumN_map], hk⟩
theorem E_izipT {mx : C (List α)} {my : C (List β)} (h1 : OkE call ρ a (eT ea) mx) (h2 : OkE call ρ b (eT eb) my) : OkE call ρ (.izip a b) (eL (eP ea eb)) (fun k => mx fun xs => my fun ys => k (zipN xs ys)) := fun k hk => by
  obtain ⟨x, e1, hk⟩ := h1 _ hk
  obtain ⟨y, e2, hk⟩ := h2 _ hk
  exact ⟨_, by simp only [ev, e1, e2, R.bind, eT, eL, zipDD, zipN_map], hk⟩
theorem E_izipL {mx : C (List α)} {my : C (List β)} (h1 : OkE call ρ a (eL ea) mx) (h2 : OkE call ρ b (eL eb) my) : OkE call ρ (.izip a b) (eL (eP ea eb)) (fun k => mx fun xs => my fun ys => k (zipN xs ys)) := fun k hk => by
  obtain ⟨x, e1, hk⟩ := h1 _ hk
  obtain ⟨y, e2, hk⟩ := h2 _ hk
  exact ⟨_, by simp only [ev, e1, e2, R.bind, eL, zipDD, zipN_map], hk⟩
theorem E_irevT {mt : C (List α)} (h : OkE call ρ a (eT ea) mt) : OkE call ρ (.irev a) (eL ea) (fun k => mt fun xs => k (revN xs)) := fun k hk => by
  obtain ⟨x, e1, hk⟩ := h _ hk
  exact ⟨_, by simp only [ev, e1, R.bind, eT, eL, seqOf, revN_eq, List.map_reverse], hk⟩
theorem E_irevL {mt : C (List α)} (h : OkE call ρ a (eL ea) mt) : OkE call ρ (.irev a) (eL ea) (fun k => mt fun xs => k (revN xs)) := fun k hk => by
  obtain ⟨x, e1, hk⟩ := h _ hk
  exact ⟨_, by simp only [ev, e1, R.bind, eL, seqOf, revN_eq, List.map_reverse], hk⟩
theorem E_revL {mt : C (List α)} (h : OkE call ρ a (eL ea) mt) : OkE call ρ (.rev a) (eL ea) (fun k => mt fun xs => k (revN xs)) := fun k hk => by
  obtain ⟨x, e1, hk⟩ := h _ hk
  exact ⟨_, by simp only [ev, e1, R.bind, eL, revD, revN_eq, List.map_reverse], hk⟩
/-! comprehensions -/
noncomputable section
/-- with a test -/
def lcC {X Y : Type} (c : X → C Bool) (f : X → C Y) (xs : List X) : Nat → C (List Y) :=
  List.rec (motive := fun _ => Nat → (List Y → Bool) → Bool) (fun n k => G (Nat.ble n big) (k [])) (fun x _ ih n k => c x fun b => cB b (f x fun y => ih (Nat.add n 1) fun ys => k (y :: ys)) (ih (Nat.add n 1) k)) xs
/-- without -/
def lcA {X Y : Type} (f : X → C Y) (xs : List X) : Nat → C (List Y) :=
  List.rec (motive := fun _ => Nat → (List Y → Bool) → Bool) (fun n k => G (Nat.ble n big) (k [])) (fun x _ ih n k => f x fun y => ih (Nat.add n 1) fun ys => k (y :: ys)) xs
def anyC {X : Type} (f : X → C Bool) (xs : List X) : C Bool := List.rec (motive := fun _ => (Bool → Bool) → Bool) (fun k => k false) (fun x _ ih k => f x fun b => cB b (k true) (ih k)) xs
def allC {X : Type} (f : X → C Bool) (xs : List X) : C Bool := List.rec (motive := fun _ => (Bool → Bool) → Bool) (fun k => k true) (fun x _ ih k => f x fun b => cB b (ih k) (k false)) xs
end
section
variable {X Y Z : Type} {ex : X → PyData} {ey : Y → PyData} {ez : Z → PyData} {own : List Nat} {own' : List (Str × Nat)} {tg : Tg} {it cond elt : IE} {mi : C (List X)} {fc : X → C Z} {fe : X → C Y} {E : X → Env} {ft : Z → Bool}
theorem lcC_ok {gc ge : Env → R PyData} {τ : Env} (hb : ∀ x, bindT tg (ex x) τ = some (E x)) (ht : Tru ez ft) (hc : ∀ x k, fc x k = true → ∃ b, gc (E x) = .ok (ez b) ∧ k b = true) (he : ∀ x k, fe x k = true → ∃ y, ge (E x) = .ok (ey y) ∧ k y = true) :
    ∀ (xs : List X) (n : Nat) (k : List Y → Bool), lcC (fun x k => fc x fun b => k (ft b)) fe xs n k = true → ∃ ys : List Y, lcGo tg gc ge τ (xs.map ex) = .ok (ys.map ey) ∧ n + xs.length ≤ big ∧ k ys = true
  | [], n, k, h => by
    obtain ⟨h1, h2⟩ := G_ok h
    exact ⟨[], rfl, Nat.ble_eq.mp h1, h2⟩
  | x :: xs, n, k, h => by
    obtain ⟨b, e1, h⟩ := hc x _ h
    rcases cB_ok h with ⟨q, h⟩ | ⟨q, h⟩
    · obtain ⟨y, e2, h⟩ := he x _ h
      obtain ⟨ys, e3, l, h⟩ := lcC_ok hb ht hc he xs _ _ h
      refine ⟨y :: ys, ?_, by simp only [List.length_cons]; simp only [Nat.add_eq] at l; omega, h⟩
      simp only [List.map_cons, lcGo, hb x, e1, R.bind, ht b, q, e2, e3]
    · obtain ⟨ys, e3, l, h⟩ := lcC_ok hb ht hc he xs _ _ h
      refine ⟨ys, ?_, by simp only [List.length_cons]; simp only [Nat.add_eq] at l; omega, h⟩
      simp only [List.map_cons, lcGo, hb x, e1, R.bind, ht b, q, e3]
theorem E_lc (hi : OkE call ρ it (eL ex) mi) (hb : ∀ x, bindT tg (ex x) (wipeE ρ own) = some (E x)) (ht : Tru ez ft) (hc : ∀ x, OkE call (E x) cond ez (fc x)) (he : ∀ x, OkE call (E x) elt ey (fe x)) :
    OkE call ρ (.lc own own' tg it cond elt) (eL ey) (fun k => mi fun xs => lcC (fun x k => fc x fun b => k (ft b)) fe xs 0 k) := fun k hk => by
  obtain ⟨xs, e1, hk⟩ := hi _ hk
  obtain ⟨ys, e2, l, hk⟩ := lcC_ok (gc := ev call cond) (ge := ev call elt) hb ht (fun x k h => hc x k h) (fun x k h => he x k h) xs 0 k hk
  refine ⟨ys, ?_, hk⟩
  simp only [ev, lcD, e1, R.bind, eL, List.length_map]
  rw [if_pos (by omega), e2]
theorem lcA_ok {ge gc : Env → R PyData} {τ : Env} (hb : ∀ x, bindT tg (ex x) τ = some (E x)) (hc : ∀ σ, gc σ = .ok (.bool true)) (he : ∀ x k, fe x k = true → ∃ y, ge (E x) = .ok (ey y) ∧ k y = true) :
    ∀ (xs : List X) (n : Nat) (k : List Y → Bool), lcA fe xs n k = true → ∃ ys : List Y, lcGo tg gc ge τ (xs.map ex) = .ok (ys.map ey) ∧ n + xs.length ≤ big ∧ k ys = true
  | [], n, k, h => by
    obtain ⟨h1, h2⟩ := G_ok h
    exact ⟨[], rfl, Nat.ble_eq.mp h1, h2⟩
  | x :: xs, n, k, h => by
    obtain ⟨y, e2, h⟩ := he x _ h
    obtain ⟨ys, e3, l, h⟩ := lcA_ok hb hc he xs _ _ h
    refine ⟨y :: ys, ?_, by simp only [List.length_cons]; simp only [Nat.add_eq] at l; omega, h⟩
    simp only [List.map_cons, lcGo, hb x, hc, R.bind, tru_B true, truth, e2, e3]
theorem E_lca (hi : OkE call ρ it (eL ex) mi) (hb : ∀ x, bindT tg (ex x) (wipeE ρ own) = some (E x)) (he : ∀ x, OkE call (E x) elt ey (fe x)) :
    OkE call ρ (.lc own own' tg it (.bl true) elt) (eL ey) (fun k => mi fun xs => lcA fe xs 0 k) := fun k hk => by
  obtain ⟨xs, e1, hk⟩ := hi _ hk
  obtain ⟨ys, e2, l, hk⟩ := lcA_ok (gc := ev call (.bl true)) (ge := ev call elt) hb (fun σ => by simp only [ev]) (fun x k h => he x k h) xs 0 k hk
  refine ⟨ys, ?_, hk⟩
  simp only [ev, lcD, e1, R.bind, eL, List.length_map]
  rw [if_pos (by omega)]
  simp only [ev] at e2
  rw [e2]
theorem anyC_ok {fe : X → C Bool} {ge : Env → R PyData} {τ : Env} (hb : ∀ x, bindT tg (ex x) τ = some (E x)) (he : ∀ x k, fe x k = true → ∃ y, ge (E x) = .ok (eB y) ∧ k y = true) :
    ∀ (xs : List X) (k : Bool → Bool), anyC fe xs k = true → ∃ r, aaGo false tg ge τ (xs.map ex) = .ok r ∧ k r = true
  | [], k, h => ⟨false, rfl, h⟩
  | x :: xs, k, h => by
    obtain ⟨y, e2, h⟩ := he x _ h
    rcases cB_ok h with ⟨q, h⟩ | ⟨q, h⟩
    · exact ⟨true, by simp only [List.map_cons, aaGo, hb x, e2, eB, boolOf, q]; rfl, h⟩
    · obtain ⟨r, e3, h⟩ := anyC_ok hb he xs _ h
      exact ⟨r, by simp only [List.map_cons, aaGo, hb x, e2, eB, boolOf, q, e3, if_true], h⟩
theorem E_any {fe : X → C Bool} (hi : OkE call ρ it (eL ex) mi) (hb : ∀ x, bindT tg (ex x) (wipeE ρ own) = some (E x)) (he : ∀ x, OkE call (E x) elt eB (fe x)) :
    OkE call ρ (.gen false own own' tg it elt) eB (fun k => mi fun xs => anyC fe xs k) := fun k hk => by
  obtain ⟨xs, e1, hk⟩ := hi _ hk
  obtain ⟨r, e2, hk⟩ := anyC_ok (ge := ev call elt) hb (fun x k h => he x k h) xs k hk
  exact ⟨r, by simp only [ev, aaD, e1, R.bind, eL, e2, eB], hk⟩
theorem allC_ok {fe : X → C Bool} {ge : Env → R PyData} {τ : Env} (hb : ∀ x, bindT tg (ex x) τ = some (E x)) (he : ∀ x k, fe x k = true → ∃ y, ge (E x) = .ok (eB y) ∧ k y = true) :
    ∀ (xs : List X) (k : Bool → Bool), allC fe xs k = true → ∃ r, aaGo true tg ge τ (xs.map ex) = .ok r ∧ k r = true
  | [], k, h => ⟨true, rfl, h⟩
  | x :: xs, k, h => by
    obtain ⟨y, e2, h⟩ := he x _ h
    rcases cB_ok h with ⟨q, h⟩ | ⟨q, h⟩
    · obtain ⟨r, e3, h⟩ := allC_ok hb he xs _ h
      exact ⟨r, by simp only [List.map_cons, aaGo, hb x, e2, eB, boolOf, q, e3, if_true], h⟩
    · exact ⟨false, by simp only [List.map_cons, aaGo, hb x, e2, eB, boolOf, q]; rfl, h⟩
theorem E_all {fe : X → C Bool} (hi : OkE call ρ it (eL ex) mi) (hb : ∀ x, bindT tg (ex x) (wipeE ρ own) = some (E x)) (he : ∀ x, OkE call (E x) elt eB (fe x)) :
    OkE call ρ (.gen true own own' tg it elt) eB (fun k => mi fun xs => allC fe xs k) := fun k hk => by
  obtain ⟨xs, e1, hk⟩ := hi _ hk
  obtain ⟨r, e2, hk⟩ := allC_ok (ge := ev call elt) hb (fun x k h => he x k h) xs k hk
  exact ⟨r, by simp only [ev, aaD, e1, R.bind, eL, e2, eB], hk⟩
end
end
end DL.TC
namespace DL.TC
open PySem PySem.Spec PyProof.Rows L2
section
variable {α β γ : Type}
noncomputable section
abbrev big64 : Nat := 18446744073709551616
abbrev big256 : Nat := 115792089237316195423570985008687907853269984665640564039457584007913129639936
abbrev addN (x y : Nat) : C Nat := fun k => k (Nat.add x y)
def subN (x y : Nat) : C Nat := fun k => G (Nat.ble y x) (k (Nat.sub x y))
def iSub (x y : Nat) : Int := Bool.rec (motive := fun _ => Int) (Int.negSucc (Nat.sub (Nat.sub y x) 1)) (Int.ofNat (Nat.sub x y)) (Nat.ble y x)
def subZ (x y : Nat) : C Int := fun k => k (iSub x y)
def mulN (x y : Nat) : C Nat := fun k => G (cB (Nat.blt x big64) true (cB (Nat.blt y big64) true (Nat.blt (Nat.add (Nat.log2 x) (Nat.log2 y)) 1000000))) (k (Nat.mul x y))
def divN (x y : Nat) : C Nat := fun k => G (Nat.ble 1 y) (G (Nat.blt (Nat.log2 y) 9000) (k (Nat.div x y)))
def modN (x y : Nat) : C Nat := fun k => G (Nat.ble 1 y) (k (Nat.mod x y))
def powN (x y : Nat) : C Nat := fun k => G (Nat.ble y 1000000) (G (Nat.blt x big64) (k (Nat.pow x y)))
def shlN (x y : Nat) : C Nat := fun k => G (Nat.ble y 1000000) (G (Nat.blt x big64) (k (Nat.mul x (Nat.pow 2 y))))
def shrN (x y : Nat) : C Nat := fun k => k (Nat.div x (Nat.pow 2 y))
def andN (x y : Nat) : C Nat := fun k => k (Nat.land x y)
def addI (x y : Int) : C Int := fun k => k (Int.add x y)
def subI (x y : Int) : C Int := fun k => k (Int.sub x y)
def mulI (x y : Int) : C Int := fun k => G (mulOk x y) (k (Int.mul x y))
def divI (x : Int) (y : Nat) : C Int := fun k => G (Nat.ble 1 y) (G (Nat.blt (Nat.log2 y) 9000) (k (Int.ediv x (Int.ofNat y))))
def modI (x : Int) (y : Nat) : C Nat := fun k => G (Nat.ble 1 y) (k (Int.toNat (Int.emod x (Int.ofNat y))))
def catC (xs ys : List α) : C (List α) := fun k => G (Nat.ble (Nat.add (lenN xs) (lenN ys)) big) (k (catN xs ys))
def repN (xs : List α) (n : Nat) : List α := Nat.rec (motive := fun _ => List α) [] (fun _ ih => catN xs ih) n
def repT (xs : List α) (n : Nat) : C (List α) := fun k => G (Nat.ble n 1000) (G (Nat.ble (lenN xs) 1000) (G (Nat.ble 1 (lenN xs)) (k (repN xs n))))
def repLC (xs : List α) (n : Nat) : C (List α) := fun k => G (Nat.ble n 100000) (G (Nat.ble (Nat.mul (lenN xs) n) big) (k (repN xs n)))
/-- a number drawn, by a rest -/
def modQ (p : Nat × Nat) (m : Nat) : C Nat := fun k => G (Nat.ble 1 m) (G (Nat.ble 1 p.1) (G (Nat.beq (Nat.mod p.1 m) 0) (k (Nat.mod p.2 m))))
end
theorem op_addN : Op2 .add eN eN eN addN := fun x y k h => ⟨_, rfl, h⟩
theorem op_subN : Op2 .sub eN eN eN subN := fun x y k h => by
  obtain ⟨h1, h⟩ := G_ok h
  have h1 := Nat.ble_eq.mp h1
  refine ⟨_, ?_, h⟩
  show R.ok (PyData.int ((x : Int) - (y : Int))) = R.ok (PyData.int ((x - y : Nat) : Int))
  rw [Int.ofNat_sub h1]
theorem iSub_eq (x y : Nat) : iSub x y = (x : Int) - (y : Int) := by
  unfold iSub
  cases h : Nat.ble y x with
  | true =>
    have h1 := Nat.ble_eq.mp h
    show ((x - y : Nat) : Int) = _
    omega
  | false =>
    have h1 : ¬ y ≤ x := fun z => by rw [Nat.ble_eq.mpr z] at h; cases h
    show Int.negSucc (y - x - 1) = _
    omega
theorem op_subZ : Op2 .sub eN eN eI subZ := fun x y k h => ⟨_, by
  show R.ok (PyData.int ((x : Int) - (y : Int))) = R.ok (PyData.int (iSub x y))
  rw [iSub_eq], h⟩
theorem mulG_ok {x y : Nat} (h : cB (Nat.blt x big64) true (cB (Nat.blt y big64) true (Nat.blt (Nat.add (Nat.log2 x) (Nat.log2 y)) 1000000)) = true) : mulOk (Int.ofNat x) (Int.ofNat y) = true := by
  unfold mulOk
  rcases cB_ok h with ⟨q, _⟩ | ⟨_, h⟩
  · have : smallI (Int.ofNat x) = true := q
    rw [this]; rfl
  · rcases cB_ok h with ⟨q, _⟩ | ⟨_, h⟩
    · have : smallI (Int.ofNat y) = true := q
      rw [this]; simp
    · have h : x.log2 + y.log2 < 1000000 := by simpa [Nat.blt_eq] using h
      rw [Bool.or_eq_true]
      exact .inr (decide_eq_true h)
theorem op_mulN : Op2 .mul eN eN eN mulN := fun x y k h => by
  obtain ⟨h1, h⟩ := G_ok h
  exact ⟨_, if_pos (mulG_ok h1), h⟩
theorem op_divN : Op2 .fdiv eN eN eN divN := fun x y k h => by
  obtain ⟨h1, h⟩ := G_ok h
  obtain ⟨h2, h⟩ := G_ok h
  have h1 := Nat.ble_eq.mp h1
  have h2 : y.log2 < 9000 := by simpa [Nat.blt_eq] using h2
  exact ⟨_, if_pos ⟨by show (0 : Int) < (y : Int); omega, h2⟩, h⟩
theorem op_modN : Op2 .mod eN eN eN modN := fun x y k h => by
  obtain ⟨h1, h⟩ := G_ok h
  have h1 := Nat.ble_eq.mp h1
  exact ⟨_, if_pos (by show (0 : Int) < (y : Int); omega), h⟩
theorem op_powN : Op2 .pow eN eN eN powN := fun x y k h => by
  obtain ⟨h1, h⟩ := G_ok h
  obtain ⟨h2, h⟩ := G_ok h
  have h1 := Nat.ble_eq.mp h1
  have h2 : x < 18446744073709551616 := by simpa [Nat.blt_eq] using h2
  refine ⟨_, ?_, h⟩
  show (if (0 : Int) ≤ (y : Int) ∧ (y : Int) ≤ 1000000 ∧ (x : Int).natAbs < 18446744073709551616 then R.ok (PyData.int ((x : Int) ^ (y : Int).toNat)) else _) = R.ok (PyData.int ((x ^ y : Nat) : Int))
  rw [if_pos ⟨by omega, by omega, by omega⟩, Int.toNat_natCast, Int.natCast_pow]
theorem op_shlN : Op2 .shl eN eN eN shlN := fun x y k h => by
  obtain ⟨h1, h⟩ := G_ok h
  obtain ⟨h2, h⟩ := G_ok h
  have h1 := Nat.ble_eq.mp h1
  have h2 : x < 18446744073709551616 := by simpa [Nat.blt_eq] using h2
  refine ⟨_, ?_, h⟩
  show (if (0 : Int) ≤ (y : Int) ∧ (y : Int) ≤ 1000000 ∧ (x : Int).natAbs < 18446744073709551616 then R.ok (PyData.int ((x : Int) * ((2 ^ (y : Int).toNat : Nat) : Int))) else _) = R.ok (PyData.int ((x * 2 ^ y : Nat) : Int))
  rw [if_pos ⟨by omega, by omega, by omega⟩, Int.toNat_natCast, Int.natCast_mul]
theorem op_shrN : Op2 .shr eN eN eN shrN := fun x y k h => by
  refine ⟨_, ?_, h⟩
  show (if (0 : Int) ≤ (y : Int) then R.ok (PyData.int ((x : Int) / ((2 ^ (y : Int).toNat : Nat) : Int))) else R.bad) = R.ok (PyData.int ((x / 2 ^ y : Nat) : Int))
  rw [if_pos (by omega), Int.toNat_natCast, Int.natCast_ediv]
theorem op_andN : Op2 .band eN eN eN andN := fun x y k h => by
  refine ⟨_, ?_, h⟩
  show R.ok (PyData.int (Builtin.bitAnd (x : Int) (y : Int))) = R.ok (PyData.int ((Nat.land x y : Nat) : Int))
  unfold Builtin.bitAnd
  rw [decide_eq_true (show (0 : Int) ≤ (x : Int) by omega), decide_eq_true (show (0 : Int) ≤ (y : Int) by omega)]
  dsimp only
  rw [Int.toNat_natCast, Int.toNat_natCast]
  rfl
theorem op_addI : Op2 .add eI eI eI addI := fun x y k h => ⟨_, rfl, h⟩
theorem op_subI : Op2 .sub eI eI eI subI := fun x y k h => ⟨_, rfl, h⟩
theorem op_mulI : Op2 .mul eI eI eI mulI := fun x y k h => by
  obtain ⟨h1, h⟩ := G_ok h
  exact ⟨_, if_pos h1, h⟩
theorem op_divI : Op2 .fdiv eI eN eI divI := fun x y k h => by
  obtain ⟨h1, h⟩ := G_ok h
  obtain ⟨h2, h⟩ := G_ok h
  have h1 := Nat.ble_eq.mp h1
  have h2 : y.log2 < 9000 := by simpa [Nat.blt_eq] using h2
  exact ⟨_, if_pos ⟨by show (0 : Int) < (y : Int); omega, h2⟩, h⟩
theorem op_modI : Op2 .mod eI eN eN modI := fun x y k h => by
  obtain ⟨h1, h⟩ := G_ok h
  have h1 := Nat.ble_eq.mp h1
  refine ⟨_, ?_, h⟩
  show (if (0 : Int) < (y : Int) then R.ok (PyData.int (x % (y : Int))) else _) = R.ok (PyData.int (((x % (y : Int)).toNat : Nat) : Int))
  rw [if_pos (by omega), Int.toNat_of_nonneg (Int.emod_nonneg _ (by omega))]
theorem op_modQ : Op2 .mod eQ eN eN modQ := fun p m k h => by
  obtain ⟨h1, h⟩ := G_ok h
  obtain ⟨h2, h⟩ := G_ok h
  obtain ⟨h3, h⟩ := G_ok h
  have h1 := Nat.ble_eq.mp h1
  have h2 := Nat.ble_eq.mp h2
  have h3 : p.1 % m = 0 := Nat.eq_of_beq_eq_true h3
  refine ⟨_, ?_, h⟩
  show (if (0 : Int) < (m : Int) ∧ (0 : Int) < (p.1 : Int) ∧ (p.1 : Int) % (m : Int) = 0 then R.ok (PyData.int ((p.2 : Int) % (m : Int))) else _) = R.ok (PyData.int ((p.2 % m : Nat) : Int))
  rw [if_pos ⟨by omega, by omega, by omega⟩, Int.natCast_emod]
theorem op_catT {e : α → PyData} : Op2 .add (eT e) (eT e) (eT e) catC := fun x y k h => by
  obtain ⟨h1, h⟩ := G_ok h
  have h1 := Nat.ble_eq.mp h1
  rw [lenN_eq, lenN_eq] at h1
  refine ⟨_, ?_, h⟩
  show (if (x.map e).length + (y.map e).length ≤ big then R.ok (PyData.tuple (x.map e ++ y.map e)) else _) = R.ok (PyData.tuple ((catN x y).map e))
  rw [if_pos (by simpa using h1), catN_eq, List.map_append]
theorem op_catL {e : α → PyData} : Op2 .add (eL e) (eL e) (eL e) catC := fun x y k h => by
  obtain ⟨h1, h⟩ := G_ok h
  have h1 := Nat.ble_eq.mp h1
  rw [lenN_eq, lenN_eq] at h1
  refine ⟨_, ?_, h⟩
  show (if (x.map e).length + (y.map e).length ≤ big then R.ok (PyData.list (x.map e ++ y.map e)) else _) = R.ok (PyData.list ((catN x y).map e))
  rw [if_pos (by simpa using h1), catN_eq, List.map_append]
theorem repN_map {e : α → PyData} (xs : List α) : ∀ n : Nat, (repN xs n).map e = repL (xs.map e) n
  | 0 => rfl
  | n + 1 => by
    show (catN xs (repN xs n)).map e = _
    rw [catN_eq, List.map_append, repN_map xs n]
    unfold repL
    rw [List.replicate_succ, List.flatten_cons]
theorem op_repT {e : α → PyData} : Op2 .mul (eT e) eN (eT e) repT := fun x n k h => by
  obtain ⟨h1, h⟩ := G_ok h
  obtain ⟨h2, h⟩ := G_ok h
  obtain ⟨h3, h⟩ := G_ok h
  have h1 := Nat.ble_eq.mp h1
  have h2 := Nat.ble_eq.mp h2
  have h3 := Nat.ble_eq.mp h3
  rw [lenN_eq] at h2 h3
  refine ⟨_, ?_, h⟩
  show (if (n : Int) ≤ 1000 ∧ (-1000 : Int) ≤ (n : Int) ∧ (x.map e).length ≤ 1000 ∧ (x.map e).isEmpty = false then R.ok (PyData.tuple (repL (x.map e) (n : Int).toNat)) else _) = R.ok (PyData.tuple ((repN x n).map e))
  rw [if_pos ⟨by omega, by omega, by simpa using h2, by cases x with
    | nil => simp at h3
    | cons a r => rfl⟩, repN_map, Int.toNat_natCast]
theorem op_repL {e : α → PyData} : Op2 .mul (eL e) eN (eL e) repLC := fun x n k h => by
  obtain ⟨h1, h⟩ := G_ok h
  obtain ⟨h2, h⟩ := G_ok h
  have h1 := Nat.ble_eq.mp h1
  have h2 := Nat.ble_eq.mp h2
  rw [lenN_eq] at h2
  refine ⟨_, ?_, h⟩
  show (if (n : Int) ≤ 100000 ∧ (-100000 : Int) ≤ (n : Int) ∧ (x.map e).length * (n : Int).toNat ≤ big then R.ok (PyData.list (repL (x.map e) (n : Int).toNat)) else _) = R.ok (PyData.list ((repN x n).map e))
  rw [if_pos ⟨by omega, by omega, by simpa using h2⟩, repN_map, Int.toNat_natCast]

/-! ### comparisons -/
theorem cm_lt : Cmp2 .lt eN eN Nat.blt := fun x y => by
  show R.ok (decide ((x : Int) < (y : Int))) = _
  congr 1
  rw [Bool.eq_iff_iff]
  simp [Nat.blt_eq]
theorem cm_le : Cmp2 .le eN eN Nat.ble := fun x y => by
  show R.ok (decide ((x : Int) ≤ (y : Int))) = _
  congr 1
  rw [Bool.eq_iff_iff]
  simp [Nat.ble_eq]
theorem cm_gt : Cmp2 .gt eN eN fun x y => Nat.blt y x := fun x y => by
  show R.ok (decide ((y : Int) < (x : Int))) = _
  congr 1
  rw [Bool.eq_iff_iff]
  simp [Nat.blt_eq]
theorem cm_ge : Cmp2 .ge eN eN fun x y => Nat.ble y x := fun x y => by
  show R.ok (decide ((y : Int) ≤ (x : Int))) = _
  congr 1
  rw [Bool.eq_iff_iff]
  simp [Nat.ble_eq]
theorem cm_ltI : Cmp2 .lt eI eI ltF := fun x y => congrArg R.ok (ltF_eq x y).symm
theorem cm_leI : Cmp2 .le eI eI leF := fun x y => congrArg R.ok (leF_eq x y).symm
theorem cm_gtI : Cmp2 .gt eI eI fun x y => ltF y x := fun x y => congrArg R.ok (ltF_eq y x).symm
theorem cm_geI : Cmp2 .ge eI eI fun x y => leF y x := fun x y => congrArg R.ok (leF_eq y x).symm
/-- equality of data: how, how deep -/
structure EqB (n : Nat) (ea : α → PyData) (f : α → α → Bool) : Prop where
  lay : ∀ x, (ea x).canLay0 = true
  dep : ∀ x, (ea x).depth ≤ n
  eq : ∀ x y, PyData.eqv (ea x) (ea y) = f x y
theorem EqB.eqD {n : Nat} {ea : α → PyData} {f : α → α → Bool} (h : EqB n ea f) (hn : n ≤ 60) (x y : α) : DL.eqD (ea x) (ea y) = .ok (f x y) := by
  have s : ∀ x, SeqAt.shaped (ea x) = true := fun x => by
    unfold SeqAt.shaped
    rw [h.lay x, Bool.true_and]
    have := h.dep x
    exact decide_eq_true (by omega)
  have e := h.eq x y
  unfold DL.eqD
  split
  · rename_i a b q1 q2; rw [q1, q2] at e; rw [← e]; simp only [PyData.eqv]
  · rename_i a b q1 q2; rw [q1, q2] at e; rw [← e]; simp only [PyData.eqv]
  · rename_i q1 q2; rw [q1, q2] at e; rw [← e]; simp only [PyData.eqv]
  · rw [s x, s y, e]; rfl
theorem cmp_eq (a b : PyData) : cmpD .eq a b = DL.eqD a b := by cases a <;> cases b <;> rfl
theorem cmp_ne (a b : PyData) : cmpD .ne a b = (DL.eqD a b).bind fun k => .ok (!k) := by cases a <;> cases b <;> rfl
theorem cm_eq {n : Nat} {ea : α → PyData} {f : α → α → Bool} (h : EqB n ea f) (hn : n ≤ 60) : Cmp2 .eq ea ea f := fun x y => by rw [cmp_eq, h.eqD hn]
theorem cm_ne {n : Nat} {ea : α → PyData} {f : α → α → Bool} (h : EqB n ea f) (hn : n ≤ 60) : Cmp2 .ne ea ea fun x y => nB (f x y) := fun x y => by rw [cmp_ne, h.eqD hn]; show R.ok (!f x y) = R.ok (nB (f x y)); rw [nB_eq]
noncomputable section
def eqBo (x y : Bool) : Bool := cB x y (nB y)
def eqPr (f : α → α → Bool) (g : β → β → Bool) (p q : α × β) : Bool := cB (f p.1 q.1) (g p.2 q.2) false
def eqPr3 (f : α → α → Bool) (g : β → β → Bool) (h : γ → γ → Bool) (p q : α × β × γ) : Bool := cB (f p.1 q.1) (cB (g p.2.1 q.2.1) (h p.2.2 q.2.2) false) false
def eqLs (f : α → α → Bool) (xs : List α) : List α → Bool := List.rec (motive := fun _ => List α → Bool) (fun ys => List.rec (motive := fun _ => Bool) true (fun _ _ _ => false) ys)
  (fun x _ ih ys => List.rec (motive := fun _ => Bool) false (fun y t _ => cB (f x y) (ih t) false) ys) xs
def eqOp (f : α → α → Bool) (x y : Option α) : Bool := Option.rec (motive := fun _ => Bool) (Option.rec (motive := fun _ => Bool) true (fun _ => false) y) (fun a => Option.rec (motive := fun _ => Bool) false (fun b => f a b) y) x
end
theorem eb_N : EqB 0 eN Nat.beq where
  lay := fun x => by simp only [eN, PyData.canLay0]
  dep := fun x => by simp only [eN, PyData.depth]; omega
  eq := fun x y => by
    simp only [eN, PyData.eqv]
    rw [Bool.eq_iff_iff]
    simp only [beq_iff_eq, Nat.beq_eq, Int.ofNat_eq_natCast]
    omega
theorem eb_I : EqB 0 eI eqI where
  lay := fun x => by simp only [eI, PyData.canLay0]
  dep := fun x => by simp only [eI, PyData.depth]; omega
  eq := fun x y => by simp only [eI, PyData.eqv]; rw [eqI_eq]
theorem eb_B : EqB 0 eB eqBo where
  lay := fun x => by simp only [eB, PyData.canLay0]
  dep := fun x => by simp only [eB, PyData.depth]; omega
  eq := fun x y => by simp only [eB, PyData.eqv]; cases x <;> cases y <;> rfl
theorem eb_U : EqB 0 eU fun _ _ => true where
  lay := fun x => by simp only [eU, PyData.canLay0]
  dep := fun x => by simp only [eU, PyData.depth]; omega
  eq := fun x y => by simp only [eU, PyData.eqv]
theorem cB_and (a b : Bool) : cB a b false = (a && b) := by cases a <;> rfl
theorem eb_P {m n : Nat} {ea : α → PyData} {eb : β → PyData} {f : α → α → Bool} {g : β → β → Bool} (h1 : EqB m ea f) (h2 : EqB n eb g) : EqB (max m n + 1) (eP ea eb) (eqPr f g) where
  lay := fun p => by simp only [eP, PyData.canLay0, PyData.canLayAll0, h1.lay, h2.lay, Bool.and_self]
  dep := fun p => by
    simp only [eP, PyData.depth, PyData.depthAll]
    have := h1.dep p.1
    have := h2.dep p.2
    omega
  eq := fun p q => by simp only [eP, PyData.eqv, PyData.eqvAll, h1.eq, h2.eq, eqPr, cB_and, Bool.and_true]
theorem eb_P3 {m n l : Nat} {ea : α → PyData} {eb : β → PyData} {ec : γ → PyData} {f : α → α → Bool} {g : β → β → Bool} {h : γ → γ → Bool} (h1 : EqB m ea f) (h2 : EqB n eb g) (h3 : EqB l ec h) : EqB (max m (max n l) + 1) (eP3 ea eb ec) (eqPr3 f g h) where
  lay := fun p => by simp only [eP3, PyData.canLay0, PyData.canLayAll0, h1.lay, h2.lay, h3.lay, Bool.and_self]
  dep := fun p => by
    simp only [eP3, PyData.depth, PyData.depthAll]
    have := h1.dep p.1
    have := h2.dep p.2.1
    have := h3.dep p.2.2
    omega
  eq := fun p q => by simp only [eP3, PyData.eqv, PyData.eqvAll, h1.eq, h2.eq, h3.eq, eqPr3, cB_and, Bool.and_true]
theorem eqAll {n : Nat} {ea : α → PyData} {f : α → α → Bool} (h : EqB n ea f) : ∀ xs ys : List α, PyData.eqvAll (xs.map ea) (ys.map ea) = eqLs f xs ys
  | [], [] => by simp only [List.map_nil, PyData.eqvAll]; rfl
  | [], y :: ys => by simp only [List.map_nil, List.map_cons, PyData.eqvAll]; rfl
  | x :: xs, [] => by simp only [List.map_nil, List.map_cons, PyData.eqvAll]; rfl
  | x :: xs, y :: ys => by
    simp only [List.map_cons, PyData.eqvAll, h.eq, eqAll h xs ys]
    show _ = cB (f x y) (eqLs f xs ys) false
    rw [cB_and]
theorem layAll {n : Nat} {ea : α → PyData} {f : α → α → Bool} (h : EqB n ea f) : ∀ xs : List α, PyData.canLayAll0 (xs.map ea) = true
  | [] => by simp only [List.map_nil, PyData.canLayAll0]
  | x :: xs => by simp only [List.map_cons, PyData.canLayAll0, h.lay, layAll h xs, Bool.and_self]
theorem depAll {n : Nat} {ea : α → PyData} {f : α → α → Bool} (h : EqB n ea f) : ∀ xs : List α, PyData.depthAll (xs.map ea) ≤ n
  | [] => by simp only [List.map_nil, PyData.depthAll]; omega
  | x :: xs => by
    simp only [List.map_cons, PyData.depthAll]
    have := h.dep x
    have := depAll h xs
    omega
theorem eb_T {n : Nat} {ea : α → PyData} {f : α → α → Bool} (h : EqB n ea f) : EqB (n + 1) (eT ea) (eqLs f) where
  lay := fun xs => by simp only [eT, PyData.canLay0, layAll h]
  dep := fun xs => by
    simp only [eT, PyData.depth]
    have := depAll h xs
    omega
  eq := fun xs ys => by simp only [eT, PyData.eqv, eqAll h]
theorem eb_L {n : Nat} {ea : α → PyData} {f : α → α → Bool} (h : EqB n ea f) : EqB (n + 1) (eL ea) (eqLs f) where
  lay := fun xs => by simp only [eL, PyData.canLay0, layAll h]
  dep := fun xs => by
    simp only [eL, PyData.depth]
    have := depAll h xs
    omega
  eq := fun xs ys => by simp only [eL, PyData.eqv, eqAll h]
/-- never None -/
def Some? (ea : α → PyData) : Prop := ∀ x, isNone (ea x) = false
theorem so_N : Some? eN := fun _ => rfl
theorem so_I : Some? eI := fun _ => rfl
theorem so_P {ea : α → PyData} {eb : β → PyData} : Some? (eP ea eb) := fun _ => rfl
theorem so_T {ea : α → PyData} : Some? (eT ea) := fun _ => rfl
theorem eqv_none_l {d : PyData} (h : isNone d = false) : PyData.eqv .none d = false := by cases d <;> first | (cases h; done) | simp only [PyData.eqv]
theorem eqv_none_r {d : PyData} (h : isNone d = false) : PyData.eqv d .none = false := by cases d <;> first | (cases h; done) | simp only [PyData.eqv]
theorem eb_O {n : Nat} {ea : α → PyData} {f : α → α → Bool} (h : EqB n ea f) (s : Some? ea) : EqB n (eO ea) (eqOp f) where
  lay := fun o => by
    cases o with
    | none => simp only [eO, PyData.canLay0]
    | some a => exact h.lay a
  dep := fun o => by
    cases o with
    | none => simp only [eO, PyData.depth]; omega
    | some a => exact h.dep a
  eq := fun x y => by
    cases x with
    | none =>
      cases y with
      | none => simp only [eO, PyData.eqv]; rfl
      | some b => exact eqv_none_l (s b)
    | some a =>
      cases y with
      | none => exact eqv_none_r (s a)
      | some b => exact h.eq a b
noncomputable section
def isNo (o : Option α) : Bool := Option.rec (motive := fun _ => Bool) true (fun _ => false) o
end
theorem isNone_O {ea : α → PyData} (s : Some? ea) (o : Option α) : isNone (eO ea o) = isNo o := by
  cases o with
  | none => rfl
  | some a => exact s a
theorem cmp_is (a : PyData) : cmpD .is_ a .none = .ok (isNone a) := by cases a <;> rfl
theorem cmp_isnot (a : PyData) : cmpD .isnot a .none = .ok (!isNone a) := by cases a <;> rfl
theorem c1_is {ea : α → PyData} (s : Some? ea) : Cmp1 .is_ (eO ea) isNo := fun x => by rw [cmp_is, isNone_O s]
theorem c1_isnot {ea : α → PyData} (s : Some? ea) : Cmp1 .isnot (eO ea) fun x => nB (isNo x) := fun x => by rw [cmp_isnot, isNone_O s]; show _ = R.ok (nB (isNo x)); rw [nB_eq]
theorem c1_isS {ea : α → PyData} (s : Some? ea) : Cmp1 .is_ ea fun _ => false := fun x => by rw [cmp_is, s x]
theorem c1_isnotS {ea : α → PyData} (s : Some? ea) : Cmp1 .isnot ea fun _ => true := fun x => by rw [cmp_isnot, s x]; rfl
noncomputable section
def inN (x : Nat) (xs : List Nat) : Bool := List.rec (motive := fun _ => Bool) false (fun y _ r => cB (Nat.beq y x) true r) xs
end
theorem inD_N (x : Nat) (xs : List Nat) : inD (eN x) (xs.map eN) = .ok (inN x xs) := by
  unfold inD
  have h1 : (xs.map eN).all scalar = true := by
    rw [List.all_eq_true]
    intro d hd
    obtain ⟨n, _, rfl⟩ := List.mem_map.mp hd
    rfl
  rw [if_pos (by rw [h1]; rfl)]
  congr 1
  induction xs with
  | nil => rfl
  | cons y ys ih =>
    simp only [List.map_cons, List.any_cons]
    rw [eb_N.eq, ih (by
      rw [List.map_cons, List.all_cons, Bool.and_eq_true] at h1
      exact h1.2)]
    show _ = cB (Nat.beq y x) true (inN x ys)
    cases Nat.beq y x <;> rfl
theorem cm_inT : Cmp2 .in_ eN (eT eN) inN := fun x xs => inD_N x xs
theorem cm_inL : Cmp2 .in_ eN (eL eN) inN := fun x xs => inD_N x xs
theorem cm_ninT : Cmp2 .notin eN (eT eN) fun x xs => nB (inN x xs) := fun x xs => by
  show (inD (eN x) (xs.map eN)).bind _ = _
  rw [inD_N]
  show R.ok (!inN x xs) = R.ok (nB (inN x xs))
  rw [nB_eq]
theorem cm_ninL : Cmp2 .notin eN (eL eN) fun x xs => nB (inN x xs) := fun x xs => by
  show (inD (eN x) (xs.map eN)).bind _ = _
  rw [inD_N]
  show R.ok (!inN x xs) = R.ok (nB (inN x xs))
  rw [nB_eq]
/-! ### truths -/
theorem tru_N : Tru eN fun n => nB (Nat.beq n 0) := fun n => by
  show R.ok ((n : Int) != 0) = R.ok (nB (Nat.beq n 0))
  rw [nB_eq]
  congr 1
  cases n with
  | zero => rfl
  | succ m =>
    have e : (((m + 1 : Nat) : Int) != 0) = true := by
      rw [bne_iff_ne]
      omega
    rw [e]
    rfl
noncomputable section
def hasC (xs : List α) : Bool := List.rec (motive := fun _ => Bool) false (fun _ _ _ => true) xs
end
theorem tru_T {e : α → PyData} : Tru (eT e) hasC := fun xs => by cases xs <;> rfl
theorem tru_L {e : α → PyData} : Tru (eL e) hasC := fun xs => by cases xs <;> rfl

/-! ### parts -/
noncomputable section
def atC (i : Nat) : List α → C α := Nat.rec (motive := fun _ => List α → (α → Bool) → Bool) (fun xs k => List.rec (motive := fun _ => Bool) false (fun x _ _ => k x) xs) (fun _ ih xs k => List.rec (motive := fun _ => Bool) false (fun _ t _ => ih t k) xs) i
def subL (xs : List α) (i : Nat) : C α := fun k => atC i xs k
/-- from the end -/
def subM (n : Nat) (xs : List α) : C α := fun k => G (Nat.ble n (lenN xs)) (G (Nat.ble 1 n) (atC (Nat.sub (lenN xs) n) xs k))
end
theorem atC_ok : ∀ {i : Nat} {xs : List α} {k : α → Bool}, atC i xs k = true → ∃ x, xs[i]? = some x ∧ k x = true
  | 0, [], k, h => by cases h
  | 0, x :: xs, k, h => ⟨x, rfl, h⟩
  | i + 1, [], k, h => by cases h
  | i + 1, x :: xs, k, h => by
    obtain ⟨y, e, q⟩ := atC_ok (i := i) (xs := xs) (k := k) h
    exact ⟨y, by rw [List.getElem?_cons_succ]; exact e, q⟩
theorem atD_map {e : α → PyData} {xs : List α} {i : Nat} {x : α} (h : xs[i]? = some x) : atD (xs.map e) (Int.ofNat i) = .ok (e x) := by
  unfold atD
  dsimp only
  rw [List.getElem?_map, h]
  rfl
theorem sb_T {e : α → PyData} : Sub2 (eT e) eN e subL := fun xs i k h => by
  obtain ⟨x, e1, h⟩ := atC_ok h
  exact ⟨x, atD_map e1, h⟩
theorem sb_L {e : α → PyData} : Sub2 (eL e) eN e subL := fun xs i k h => by
  obtain ⟨x, e1, h⟩ := atC_ok h
  exact ⟨x, atD_map e1, h⟩
theorem atD_neg {e : α → PyData} {xs : List α} {n : Nat} {x : α} (h0 : n + 1 ≤ xs.length) (h : xs[xs.length - (n + 1)]? = some x) : atD (xs.map e) (Int.negSucc n) = .ok (e x) := by
  unfold atD
  dsimp only
  rw [List.length_map, if_pos (by omega), List.getElem?_map, h]
  rfl
theorem subM_ok {n : Nat} {xs : List α} {k : α → Bool} {e : α → PyData} (h : subM n xs k = true) : ∃ x, atD (xs.map e) (-(n : Int)) = .ok (e x) ∧ k x = true := by
  obtain ⟨h1, h⟩ := G_ok h
  obtain ⟨h2, h⟩ := G_ok h
  obtain ⟨x, e1, hk⟩ := atC_ok h
  have h1 := Nat.ble_eq.mp h1
  have h2 := Nat.ble_eq.mp h2
  rw [lenN_eq] at h1 e1
  obtain ⟨m, rfl⟩ : ∃ m, n = m + 1 := ⟨n - 1, by omega⟩
  exact ⟨x, atD_neg h1 e1, hk⟩
theorem sm_T {e : α → PyData} (n : Nat) : SubK (eT e) (-(n : Int)) e (subM n) := fun xs k h => subM_ok h
theorem sm_L {e : α → PyData} (n : Nat) : SubK (eL e) (-(n : Int)) e (subM n) := fun xs k h => subM_ok h
section
variable {δ : Type} {ea : α → PyData} {eb : β → PyData} {ec : γ → PyData} {ed : δ → PyData}
theorem sk_0 : SubK (eP ea eb) 0 ea fun p k => k p.1 := fun p k h => ⟨_, rfl, h⟩
theorem sk_1 : SubK (eP ea eb) 1 eb fun p k => k p.2 := fun p k h => ⟨_, rfl, h⟩
theorem sk3_0 : SubK (eP3 ea eb ec) 0 ea fun p k => k p.1 := fun p k h => ⟨_, rfl, h⟩
theorem sk3_1 : SubK (eP3 ea eb ec) 1 eb fun p k => k p.2.1 := fun p k h => ⟨_, rfl, h⟩
theorem sk3_2 : SubK (eP3 ea eb ec) 2 ec fun p k => k p.2.2 := fun p k h => ⟨_, rfl, h⟩
theorem sk4_0 : SubK (eP4 ea eb ec ed) 0 ea fun p k => k p.1 := fun p k h => ⟨_, rfl, h⟩
theorem sk4_1 : SubK (eP4 ea eb ec ed) 1 eb fun p k => k p.2.1 := fun p k h => ⟨_, rfl, h⟩
theorem sk4_2 : SubK (eP4 ea eb ec ed) 2 ec fun p k => k p.2.2.1 := fun p k h => ⟨_, rfl, h⟩
theorem sk4_3 : SubK (eP4 ea eb ec ed) 3 ed fun p k => k p.2.2.2 := fun p k h => ⟨_, rfl, h⟩
end
/-! ### built-ins -/
noncomputable section
abbrev absI (i : Int) : C Nat := fun k => k (Int.natAbs i)
def minN (x y : Nat) : C Nat := fun k => k (Bool.rec (motive := fun _ => Nat) x y (Nat.blt y x))
def maxN (x y : Nat) : C Nat := fun k => k (Bool.rec (motive := fun _ => Nat) x y (Nat.blt x y))
def minI (x y : Int) : C Int := fun k => k (Bool.rec (motive := fun _ => Int) x y (ltF y x))
def maxI (x y : Int) : C Int := fun k => k (Bool.rec (motive := fun _ => Int) x y (ltF x y))
def sumN (xs : List Nat) : Nat := List.rec (motive := fun _ => Nat) 0 (fun x _ r => Nat.add x r) xs
def lowGo (xs : List Nat) : Nat → Nat := List.rec (motive := fun _ => Nat → Nat) (fun n => n) (fun m _ ih n => ih (Bool.rec (motive := fun _ => Nat) n m (Nat.blt m n))) xs
def highGo (xs : List Nat) : Nat → Nat := List.rec (motive := fun _ => Nat → Nat) (fun n => n) (fun m _ ih n => ih (Bool.rec (motive := fun _ => Nat) n m (Nat.blt n m))) xs
def lowN (xs : List Nat) : C Nat := fun k => List.rec (motive := fun _ => Bool) false (fun x t _ => k (lowGo t x)) xs
def highN (xs : List Nat) : C Nat := fun k => List.rec (motive := fun _ => Bool) false (fun x t _ => k (highGo t x)) xs
end
theorem bl_lenT {e : α → PyData} : Bl1 .len (eT e) eN fun xs k => k (lenN xs) := fun xs k h => ⟨_, by
  show R.ok (PyData.int ((xs.map e).length : Int)) = R.ok (PyData.int ((lenN xs : Nat) : Int))
  rw [lenN_eq, List.length_map], h⟩
theorem bl_lenL {e : α → PyData} : Bl1 .len (eL e) eN fun xs k => k (lenN xs) := fun xs k h => ⟨_, by
  show R.ok (PyData.int ((xs.map e).length : Int)) = R.ok (PyData.int ((lenN xs : Nat) : Int))
  rw [lenN_eq, List.length_map], h⟩
theorem bl_lenP {ea : α → PyData} {eb : β → PyData} : Bl1 .len (eP ea eb) eN fun _ k => k 2 := fun xs k h => ⟨_, rfl, h⟩
theorem bl_absN : Bl1 .abs eN eN fun n k => k n := fun n k h => ⟨n, by
  show R.ok (PyData.int (if (n : Int) < 0 then -(n : Int) else (n : Int))) = _
  rw [if_neg (by omega)]; rfl, h⟩
theorem bl_absI : Bl1 .abs eI eN absI := fun n k h => ⟨_, by
  show R.ok (PyData.int (if n < 0 then -n else n)) = R.ok (PyData.int ((n.natAbs : Nat) : Int))
  congr 2
  split <;> omega, h⟩
theorem bl_intN : Bl1 .int eN eN fun n k => k n := fun n k h => ⟨n, rfl, h⟩
theorem bl_intI : Bl1 .int eI eI fun n k => k n := fun n k h => ⟨n, rfl, h⟩
theorem bl_intB : Bl1 .int eB eN fun b k => k (Bool.rec (motive := fun _ => Nat) 0 1 b) := fun b k h => ⟨_, by cases b <;> rfl, h⟩
theorem bl_tupL {e : α → PyData} : Bl1 .tuple (eL e) (eT e) fun xs k => k xs := fun xs k h => ⟨xs, rfl, h⟩
theorem bl_tupT {e : α → PyData} : Bl1 .tuple (eT e) (eT e) fun xs k => k xs := fun xs k h => ⟨xs, rfl, h⟩
theorem bl_lstL {e : α → PyData} : Bl1 .list (eL e) (eL e) fun xs k => k xs := fun xs k h => ⟨xs, rfl, h⟩
theorem bl_lstT {e : α → PyData} : Bl1 .list (eT e) (eL e) fun xs k => k xs := fun xs k h => ⟨xs, rfl, h⟩
theorem bl_min2 : Bl2 .min2 eN eN eN minN := fun x y k h => ⟨_, by
  show R.ok (PyData.int (if (y : Int) < (x : Int) then (y : Int) else (x : Int))) = R.ok (PyData.int ((_ : Nat) : Int))
  congr 2
  cases q : Nat.blt y x with
  | true => have := Nat.blt_eq.mp q; rw [if_pos (by omega)]
  | false =>
    have : ¬ y < x := fun z => by rw [Nat.blt_eq.mpr z] at q; cases q
    rw [if_neg (by omega)], h⟩
theorem bl_max2 : Bl2 .max2 eN eN eN maxN := fun x y k h => ⟨_, by
  show R.ok (PyData.int (if (y : Int) > (x : Int) then (y : Int) else (x : Int))) = R.ok (PyData.int ((_ : Nat) : Int))
  congr 2
  cases q : Nat.blt x y with
  | true => have := Nat.blt_eq.mp q; rw [if_pos (by omega)]
  | false =>
    have : ¬ x < y := fun z => by rw [Nat.blt_eq.mpr z] at q; cases q
    rw [if_neg (by omega)], h⟩
theorem bl_min2I : Bl2 .min2 eI eI eI minI := fun x y k h => ⟨_, by
  show R.ok (PyData.int (if y < x then y else x)) = R.ok (PyData.int _)
  rw [ltF_eq]
  by_cases q : y < x <;> simp [q], h⟩
theorem bl_max2I : Bl2 .max2 eI eI eI maxI := fun x y k h => ⟨_, by
  show R.ok (PyData.int (if y > x then y else x)) = R.ok (PyData.int _)
  rw [ltF_eq]
  by_cases q : x < y <;> simp [q], h⟩
theorem ints_N : ∀ xs : List Nat, intsOf (xs.map eN) = some (xs.map Int.ofNat)
  | [] => rfl
  | x :: xs => by simp only [List.map_cons, eN, intsOf, ints_N xs]
theorem sum_N : ∀ xs : List Nat, (xs.map Int.ofNat).sum = Int.ofNat (sumN xs)
  | [] => rfl
  | x :: xs => by
    rw [List.map_cons, List.sum_cons, sum_N xs]
    rfl
theorem sumD_N (xs : List Nat) : sumD (xs.map eN) = .ok (eN (sumN xs)) := by
  unfold sumD
  rw [ints_N]
  dsimp only
  rw [sum_N]
  rfl
theorem bl_sumT : Bl1 .sum (eT eN) eN fun xs k => k (sumN xs) := fun xs k h => ⟨_, sumD_N xs, h⟩
theorem bl_sumL : Bl1 .sum (eL eN) eN fun xs k => k (sumN xs) := fun xs k h => ⟨_, sumD_N xs, h⟩
theorem low_N : ∀ (xs : List Nat) (n : Nat), lowI (Int.ofNat n) (xs.map Int.ofNat) = Int.ofNat (lowGo xs n)
  | [], n => rfl
  | x :: xs, n => by
    rw [List.map_cons]
    unfold lowI
    show lowI _ _ = Int.ofNat (lowGo xs (Bool.rec (motive := fun _ => Nat) n x (Nat.blt x n)))
    rw [← low_N xs]
    congr 1
    cases q : Nat.blt x n with
    | true =>
      have := Nat.blt_eq.mp q
      rw [if_pos (show (Int.ofNat x) < (Int.ofNat n) by show (x : Int) < (n : Int); omega)]
    | false =>
      have : ¬ x < n := fun z => by rw [Nat.blt_eq.mpr z] at q; cases q
      rw [if_neg (show ¬ (Int.ofNat x) < (Int.ofNat n) by show ¬ (x : Int) < (n : Int); omega)]
theorem high_N : ∀ (xs : List Nat) (n : Nat), highI (Int.ofNat n) (xs.map Int.ofNat) = Int.ofNat (highGo xs n)
  | [], n => rfl
  | x :: xs, n => by
    rw [List.map_cons]
    unfold highI
    show highI _ _ = Int.ofNat (highGo xs (Bool.rec (motive := fun _ => Nat) n x (Nat.blt n x)))
    rw [← high_N xs]
    congr 1
    cases q : Nat.blt n x with
    | true =>
      have := Nat.blt_eq.mp q
      rw [if_pos (show (Int.ofNat n) < (Int.ofNat x) by show (n : Int) < (x : Int); omega)]
    | false =>
      have : ¬ n < x := fun z => by rw [Nat.blt_eq.mpr z] at q; cases q
      rw [if_neg (show ¬ (Int.ofNat n) < (Int.ofNat x) by show ¬ (n : Int) < (x : Int); omega)]
theorem lowD_N {xs : List Nat} {k : Nat → Bool} (h : lowN xs k = true) : ∃ n, lowD (xs.map eN) = .ok (eN n) ∧ k n = true := by
  cases xs with
  | nil => cases h
  | cons x t =>
    refine ⟨_, ?_, h⟩
    unfold lowD
    rw [ints_N, List.map_cons]
    dsimp only
    rw [low_N]
    rfl
theorem highD_N {xs : List Nat} {k : Nat → Bool} (h : highN xs k = true) : ∃ n, highD (xs.map eN) = .ok (eN n) ∧ k n = true := by
  cases xs with
  | nil => cases h
  | cons x t =>
    refine ⟨_, ?_, h⟩
    unfold highD
    rw [ints_N, List.map_cons]
    dsimp only
    rw [high_N]
    rfl
theorem bl_minT : Bl1 .min1 (eT eN) eN lowN := fun xs k h => lowD_N h
theorem bl_minL : Bl1 .min1 (eL eN) eN lowN := fun xs k h => lowD_N h
theorem bl_maxT : Bl1 .max1 (eT eN) eN highN := fun xs k h => highD_N h
theorem bl_maxL : Bl1 .max1 (eL eN) eN highN := fun xs k h => highD_N h
/-! sorted -/
noncomputable section
def insS (i : Nat) (ks : List Nat) : List Nat := List.rec (motive := fun _ => List Nat) [i] (fun j r ih => Bool.rec (motive := fun _ => List Nat) (j :: ih) (i :: j :: r) (Nat.ble i j)) ks
def sortS (ks : List Nat) : List Nat := List.rec (motive := fun _ => List Nat) [] (fun i _ ih => insS i ih) ks
end
theorem insS_map (i : Nat) : ∀ ks : List Nat, (insS i ks).map Int.ofNat = insZ (Int.ofNat i) (ks.map Int.ofNat)
  | [] => rfl
  | j :: r => by
    show List.map Int.ofNat (Bool.rec (motive := fun _ => List Nat) (j :: insS i r) (i :: j :: r) (Nat.ble i j)) = _
    rw [List.map_cons]
    unfold insZ
    cases q : Nat.ble i j with
    | true =>
      have := Nat.ble_eq.mp q
      rw [if_pos (show Int.ofNat i ≤ Int.ofNat j by show (i : Int) ≤ (j : Int); omega)]
      rfl
    | false =>
      have : ¬ i ≤ j := fun z => by rw [Nat.ble_eq.mpr z] at q; cases q
      rw [if_neg (show ¬ Int.ofNat i ≤ Int.ofNat j by show ¬ (i : Int) ≤ (j : Int); omega), ← insS_map i r]
      rfl
theorem sortS_map : ∀ ks : List Nat, (sortS ks).map Int.ofNat = sortZ (ks.map Int.ofNat)
  | [] => rfl
  | i :: r => by
    rw [List.map_cons]
    unfold sortZ
    rw [← sortS_map r, ← insS_map]
    rfl
theorem sorted_map (xs : List Nat) : (sortZ (xs.map Int.ofNat)).map PyData.int = (sortS xs).map eN := by
  rw [← sortS_map, List.map_map]
  rfl
theorem bl_sortT : Bl1 .sorted (eT eN) (eL eN) fun xs k => k (sortS xs) := fun xs k h => ⟨_, by
  show sortD (xs.map eN) = .ok (.list ((sortS xs).map eN))
  unfold sortD
  rw [ints_N]
  dsimp only
  rw [sorted_map], h⟩
theorem bl_sortL : Bl1 .sorted (eL eN) (eL eN) fun xs k => k (sortS xs) := fun xs k h => ⟨_, by
  show sortDL (xs.map eN) = .ok (.list ((sortS xs).map eN))
  unfold sortDL
  rw [ints_N]
  dsimp only
  rw [sorted_map], h⟩
end
end DL.TC
namespace DL.TC
open PySem PySem.Spec PyProof.Rows L2
/-! ### less known, step by step -/
mutual
theorem fk_trans : ∀ (a b c : PyData), Fk a b → Fk b c → Fk a c
  | .none, b, c, h, g => by have := h.none; subst this; exact g
  | .bool _, b, c, h, g => by have := h.bool; subst this; exact g
  | .int _, b, c, h, g => by have := h.int; subst this; exact g
  | .str _, b, c, h, g => by have := h.str; subst this; exact g
  | .list xs, b, c, h, g => by
    obtain ⟨ys, rfl, q⟩ := h.list
    obtain ⟨zs, rfl, z⟩ := g.list
    exact .ofList (fkA_trans xs ys zs q z)
  | .tuple xs, b, c, h, g => by
    obtain ⟨ys, rfl, q⟩ := h.tuple
    obtain ⟨zs, rfl, z⟩ := g.tuple
    exact .ofTuple (fkA_trans xs ys zs q z)
  | .dict kvs, b, c, h, g => by
    rcases h.dict with rfl | ⟨M, r, x, rfl, rfl, e⟩
    · exact g
    · have := g.int
      subst this
      exact h
theorem fkA_trans : ∀ (as bs cs : List PyData), FkA as bs → FkA bs cs → FkA as cs
  | [], bs, cs, h, g => by have := h.nil_of; subst this; exact g
  | a :: as, bs, cs, h, g => by
    obtain ⟨b, r, rfl, q1, q2⟩ := h.cons_of
    obtain ⟨c, s, rfl, z1, z2⟩ := g.cons_of
    exact .cons (fk_trans a b c q1 z1) (fkA_trans as r s q2 z2)
end
theorem fkS_trans {a b c : Sl} (h : FkS a b) (g : FkS b c) : FkS a c := by
  cases a with
  | un => trivial
  | sh d =>
    obtain ⟨d', rfl, q⟩ := h
    obtain ⟨d'', rfl, z⟩ := g
    exact ⟨_, rfl, fk_trans _ _ _ q z⟩
  | o1 d =>
    obtain ⟨d', rfl, q⟩ := h
    obtain ⟨d'', rfl, z⟩ := g
    exact ⟨_, rfl, fkA_trans _ _ _ q z⟩
  | o2 d =>
    have h : b = .o2 d := h
    subst h
    exact g
theorem fkE_trans {a b c : Env} (h : FkE a b) (g : FkE b c) : FkE a c where
  len := h.len.trans g.len
  at_ := fun i s e => by
    obtain ⟨t, e1, q⟩ := h.at_ i s e
    obtain ⟨u, e2, z⟩ := g.at_ i t e1
    exact ⟨u, e2, fkS_trans q z⟩
theorem fkS_refl (s : Sl) : FkS s s := by
  cases s with
  | un => trivial
  | sh d => exact ⟨d, rfl, Fk.refl d⟩
  | o1 d => exact ⟨d, rfl, FkA.refl d⟩
  | o2 d => rfl
theorem fkE_refl (ρ : Env) : FkE ρ ρ := ⟨rfl, fun i s e => ⟨s, e, fkS_refl s⟩⟩
/-- the slots with true are forgotten -/
def msk : List Bool → Env → Env
  | true :: m, _ :: r => .un :: msk m r
  | false :: m, s :: r => s :: msk m r
  | [], r => r
  | _, [] => []
theorem fkE_cons {s t : Sl} {a b : Env} (h : FkS s t) (g : FkE a b) : FkE (s :: a) (t :: b) where
  len := by rw [List.length_cons, List.length_cons, g.len]
  at_ := fun i u e => by
    cases i with
    | zero => simp only [List.getElem?_cons_zero, Option.some.injEq] at e; subst e; exact ⟨t, rfl, h⟩
    | succ i => rw [List.getElem?_cons_succ] at e ⊢; exact g.at_ i u e
theorem msk_le : ∀ (m : List Bool) (ρ : Env), FkE (msk m ρ) ρ
  | true :: m, s :: r => fkE_cons (s := .un) trivial (msk_le m r)
  | false :: m, s :: r => fkE_cons (fkS_refl s) (msk_le m r)
  | [], r => fkE_refl r
  | true :: m, [] => fkE_refl []
  | false :: m, [] => fkE_refl []
theorem fk_msk {m : List Bool} {ρ σ : Env} (h : msk m ρ = σ) : FkE σ ρ := h ▸ msk_le m ρ
/-! ### what deeper runs tell -/
section
variable {T : Tab} {bs : List (Nat × IS)} {mt : Nat → Nat → Option Bool}
theorem callT_fk {f g : Nat → List PyData → R PyData} (h : ∀ j xs ys, FkA xs ys → RR Fk (f j xs) (g j ys)) (j : Nat) (xs ys : List PyData) (q : FkA xs ys) : RR Fk (callT T f j xs) (callT T g j ys) := by
  unfold callT
  cases T.fns[j]? with
  | none => exact RR.bad
  | some w =>
    dsimp only
    have e : padOf w ys.length = padOf w xs.length := by rw [q.length]
    rw [e]
    exact h j _ _ (q.append (FkA.refl _))
theorem runs_mono : ∀ (d d' : Nat), d ≤ d' → ∀ (j : Nat) (xs ys : List PyData), FkA xs ys → RR Fk (runs T bs mt d j xs) (runs T bs mt d' j ys)
  | 0, _, _, j, xs, ys, _ => RR.bad
  | d + 1, 0, h, _, _, _, _ => by omega
  | d + 1, d' + 1, h, j, xs, ys, q => by
    unfold runs
    cases bs[j]? with
    | none => exact RR.bad
    | some p =>
      dsimp only
      exact fk_fin (fk_exec (fun j' us vs z => callT_fk (runs_mono d d' (by omega)) j' us vs z) _ _ _ (fkE_of q))
theorem call_mono {d d' : Nat} (h : d ≤ d') (j : Nat) (xs ys : List PyData) (q : FkA xs ys) : RR Fk (callT T (runs T bs mt d) j xs) (callT T (runs T bs mt d') j ys) := callT_fk (runs_mono d d' h) j xs ys q
end

/-! ### statements -/
def Post (N : Env → Prop) (Q : PyData → Prop) : Fl → Prop
  | .next ρ => N ρ
  | .ret d => Q d
def J (call : Nat → List PyData → R PyData) (mt : Nat → Nat → Option Bool) (ρ : Env) (st : IS) (c : Bool) (N : Env → Prop) (Q : PyData → Prop) : Prop := c = true → ∃ x, exec call mt st ρ = .ok x ∧ Post N Q x
def MonoN (N : Env → Prop) : Prop := ∀ ρ ρ', FkE ρ ρ' → N ρ → N ρ'
def CloQ (Q : PyData → Prop) : Prop := ∀ d d', Fk d d' → Q d → Q d'
def Nx {S : Type} (E : S → Env) (j : S → Bool) : Env → Prop := fun ρ => ∃ s, FkE (E s) ρ ∧ j s = true
theorem mono_Nx {S : Type} {E : S → Env} {j : S → Bool} : MonoN (Nx E j) := fun ρ ρ' h ⟨s, g, e⟩ => ⟨s, fkE_trans g h, e⟩
theorem mono_c {p : Prop} : MonoN (fun _ => p) := fun _ _ _ h => h
def MonoC (call : Nat → List PyData → R PyData) : Prop := ∀ j xs ys, FkA xs ys → RR Fk (call j xs) (call j ys)
/-- what a def hands back -/
def Rt {ε : Type} (er : ε → PyData) (k : ε → Bool) : PyData → Prop := fun d => ∃ a, d = er a ∧ k a = true
def Kn {ε : Type} (er : ε → PyData) : Prop := ∀ a, known (er a) = true
theorem clo_Rt {ε : Type} {er : ε → PyData} (h : Kn er) {k : ε → Bool} : CloQ (Rt er k) := fun d d' f ⟨a, e, q⟩ => by
  subst e
  exact ⟨a, Fk.known _ _ (h a) f, q⟩
theorem kn_pu {ε : Type} {er : ε → PyData} (h : Pu er) : Kn er := fun a => known_of_pure _ (h a)
theorem kn_L {ε : Type} {er : ε → PyData} (h : Kn er) : Kn (eL er) := fun xs => by
  simp only [eL, known]
  induction xs with
  | nil => simp only [List.map_nil, knowns]
  | cons x xs ih => simp only [List.map_cons, knowns, h x, ih, Bool.and_self]
theorem kn_T {ε : Type} {er : ε → PyData} (h : Kn er) : Kn (eT er) := fun xs => by
  simp only [eT, known]
  induction xs with
  | nil => simp only [List.map_nil, knowns]
  | cons x xs ih => simp only [List.map_cons, knowns, h x, ih, Bool.and_self]
theorem kn_P {α β : Type} {ea : α → PyData} {eb : β → PyData} (h : Kn ea) (g : Kn eb) : Kn (eP ea eb) := fun p => by simp only [eP, known, knowns, h p.1, g p.2, Bool.and_self]
theorem kn_P3 {α β γ : Type} {ea : α → PyData} {eb : β → PyData} {ec : γ → PyData} (h : Kn ea) (g : Kn eb) (i : Kn ec) : Kn (eP3 ea eb ec) := fun p => by simp only [eP3, known, knowns, h p.1, g p.2.1, i p.2.2, Bool.and_self]
theorem kn_O {ε : Type} {er : ε → PyData} (h : Kn er) : Kn (eO er) := fun o => by
  cases o with
  | none => simp only [eO, known]
  | some a => exact h a
/-- a list of one's own, turned round, with its length -/
def oR {α : Type} (e : α → PyData) (p : Nat × List α) : Sl := .o1 ((p.2.take p.1).reverse.map e)
def oP {α : Type} (e : α → PyData) (xs : List α) : Sl := .o1 (xs.map e)
noncomputable section
def outN {α : Type} (p : Nat × List α) : List α := revN (takeN p.1 p.2)
def inR {α : Type} (xs : List α) : Nat × List α := (lenN xs, revN xs)
def setC {α : Type} (i : Nat) : List α → α → C (List α) := Nat.rec (motive := fun _ => List α → α → (List α → Bool) → Bool) (fun xs x k => List.rec (motive := fun _ => Bool) false (fun _ t _ => k (x :: t)) xs)
  (fun _ ih xs x k => List.rec (motive := fun _ => Bool) false (fun y t _ => ih t x fun t' => k (y :: t')) xs) i
def forC {X S : Type} (body : X → S → (S → Bool) → Bool) (xs : List X) : S → (S → Bool) → Bool := List.rec (motive := fun _ => S → (S → Bool) → Bool) (fun s k => k s) (fun x _ ih s k => body x s fun s' => ih s' k) xs
def whileC {S : Type} (cond : S → C Bool) (body : S → (S → Bool) → Bool) (n : Nat) : S → (S → Bool) → Bool := Nat.rec (motive := fun _ => S → (S → Bool) → Bool) (fun _ _ => false) (fun _ ih s k => cond s fun b => cB b (body s fun s' => ih s' k) (k s)) n
def joinC {S : Type} (body : (S → Bool) → Bool) (k : S → Bool) : Bool := body k
end
theorem oR_in {α : Type} (e : α → PyData) (xs : List α) : Sl.o1 (xs.map e) = oR e (inR xs) := by
  unfold oR inR
  rw [lenN_eq, revN_eq]
  dsimp only
  rw [List.take_of_length_le (by rw [List.length_reverse]; exact Nat.le_refl _), List.reverse_reverse]
theorem setC_ok {α : Type} : ∀ {i : Nat} {xs : List α} {x : α} {k : List α → Bool}, setC i xs x k = true → i < xs.length ∧ k (xs.set i x) = true
  | 0, [], x, k, h => by cases h
  | 0, y :: xs, x, k, h => ⟨by simp, h⟩
  | i + 1, [], x, k, h => by cases h
  | i + 1, y :: xs, x, k, h => by
    obtain ⟨h1, h2⟩ := setC_ok (i := i) (xs := xs) (x := x) (k := fun t' => k (y :: t')) h
    exact ⟨by simp only [List.length_cons]; omega, h2⟩
section
variable {call : Nat → List PyData → R PyData} {mt : Nat → Nat → Option Bool} {α β γ S X : Type} {ρ : Env} {e c : IE} {a b k st body : IS} {ea : α → PyData} {eb : β → PyData} {ma : C α} {N N' : Env → Prop} {Q : PyData → Prop} {i : Nat}
theorem E_own {p : Nat × List α} (h : (ρ[i]? : Option Sl) = some (oR ea p)) : OkE call ρ (.var i) (eL ea) (V (outN p)) := fun k hk => by
  refine ⟨outN p, ?_, hk⟩
  simp only [ev, h, oR, Sl.val, eL, outN, revN_eq, takeN_eq]
theorem J_false : J call mt ρ st false N Q := fun h => by cases h
theorem J_done (h : ∀ _ : x = true, N ρ) : J call mt ρ .done x N Q := fun hc => ⟨.next ρ, by simp only [exec], h hc⟩
theorem J_pas {x : Bool} (h : J call mt ρ k x N Q) : J call mt ρ (.pas k) x N Q := fun hc => by
  obtain ⟨y, e1, q⟩ := h hc
  exact ⟨y, by simp only [exec]; exact e1, q⟩
theorem J_cast {σ : Env} {x : Bool} (h : ρ = σ) (g : J call mt σ st x N Q) : J call mt ρ st x N Q := h ▸ g
/-- less known before -/
theorem J_le (hC : MonoC call) (hN : MonoN N) (hQ : CloQ Q) {σ : Env} {x : Bool} (h : FkE σ ρ) (g : J call mt σ st x N Q) : J call mt ρ st x N Q := fun hc => by
  obtain ⟨y, e1, q⟩ := g hc
  have z := fk_exec (mt := mt) hC st _ _ h
  rw [e1] at z
  obtain ⟨y', e2, w⟩ := z
  refine ⟨y', e2, ?_⟩
  cases y with
  | next τ => obtain ⟨τ', rfl, u⟩ := w; exact hN _ _ u q
  | ret d => obtain ⟨d', rfl, u⟩ := w; exact hQ _ _ u q
theorem J_ret {kr : α → Bool} (he : OkE call ρ e ea ma) (hq : ∀ x, kr x = true → Q (ea x)) : J call mt ρ (.ret e) (ma kr) N Q := fun hc => by
  obtain ⟨x, e1, h⟩ := he _ hc
  exact ⟨.ret (ea x), by simp only [exec, e1, R.bind], hq x h⟩
theorem J_setp {ck : α → Bool} (he : OkE call ρ e ea ma) (pu : Pu ea) (hk : ∀ x, J call mt (ρ.set i (.sh (ea x))) k (ck x) N Q) : J call mt ρ (.set .p i e k) (ma ck) N Q := fun hc => by
  obtain ⟨x, e1, h⟩ := he _ hc
  obtain ⟨y, e2, q⟩ := hk x h
  exact ⟨y, by simp only [exec, e1, R.bind, pu x, if_true]; exact e2, q⟩
theorem J_setz {fz : List Nat} {ck : α → Bool} (he : OkE call (hideAt fz 0 ρ) e ea ma) (hk : ∀ x, J call mt ((give fz ρ).set i (.sh (ea x))) k (ck x) N Q) : J call mt ρ (.set (.z fz) i e k) (ma ck) N Q := fun hc => by
  obtain ⟨x, e1, h⟩ := he _ hc
  obtain ⟨y, e2, q⟩ := hk x h
  exact ⟨y, by simp only [exec, e1, R.bind]; exact e2, q⟩
theorem J_setf {ml : C (List α)} {ck : List α → Bool} (hi : Nat.blt i ρ.length = true) (he : OkE call ρ e (eL ea) ml) (pu : Pu ea) (hk : ∀ xs, J call mt (ρ.set i (oP ea xs)) k (ck xs) N Q) : J call mt ρ (.set .f i e k) (ml ck) N Q := fun hc => by
  obtain ⟨x, e1, h⟩ := he _ hc
  obtain ⟨y, e2, q⟩ := hk x h
  refine ⟨y, ?_, q⟩
  simp only [exec, e1, R.bind, eL, setF, pus pu x, decide_eq_true (Nat.blt_eq.mp hi), Bool.and_self, if_true]
  exact e2
theorem J_setfR {ml : C (List α)} {ck : Nat × List α → Bool} (hi : Nat.blt i ρ.length = true) (he : OkE call ρ e (eL ea) ml) (pu : Pu ea) (hk : ∀ p, J call mt (ρ.set i (oR ea p)) k (ck p) N Q) : J call mt ρ (.set .f i e k) (ml fun xs => V (inR xs) ck) N Q := fun hc => by
  obtain ⟨x, e1, h⟩ := he _ hc
  obtain ⟨y, e2, q⟩ := hk _ h
  refine ⟨y, ?_, q⟩
  simp only [exec, e1, R.bind, eL, setF, pus pu x, decide_eq_true (Nat.blt_eq.mp hi), Bool.and_self, if_true]
  rw [oR_in]
  exact e2
theorem J_setfz {fz : List Nat} {ml : C (List α)} {ck : List α → Bool} (hi : Nat.blt i ρ.length = true) (he : OkE call (hideAt fz 0 ρ) e (eL ea) ml) (hk : ∀ xs, J call mt ((give fz ρ).set i (oP ea xs)) k (ck xs) N Q) : J call mt ρ (.set (.fz fz) i e k) (ml ck) N Q := fun hc => by
  obtain ⟨x, e1, h⟩ := he _ hc
  obtain ⟨y, e2, q⟩ := hk x h
  refine ⟨y, ?_, q⟩
  simp only [exec, e1, R.bind, eL, setFz, Nat.blt_eq.mp hi, if_true]
  exact e2
theorem J_setfzR {fz : List Nat} {ml : C (List α)} {ck : Nat × List α → Bool} (hi : Nat.blt i ρ.length = true) (he : OkE call (hideAt fz 0 ρ) e (eL ea) ml) (hk : ∀ p, J call mt ((give fz ρ).set i (oR ea p)) k (ck p) N Q) : J call mt ρ (.set (.fz fz) i e k) (ml fun xs => V (inR xs) ck) N Q := fun hc => by
  obtain ⟨x, e1, h⟩ := he _ hc
  obtain ⟨y, e2, q⟩ := hk _ h
  refine ⟨y, ?_, q⟩
  simp only [exec, e1, R.bind, eL, setFz, Nat.blt_eq.mp hi, if_true]
  rw [oR_in]
  exact e2
theorem J_app {p : Nat × List α} {ck : Nat × List α → Bool} (hs : (ρ[i]? : Option Sl) = some (oR ea p)) (he : OkE call ρ e ea ma) (pu : Pu ea) (hk : ∀ q, J call mt (ρ.set i (oR ea q)) k (ck q) N Q) :
    J call mt ρ (.app i e k) (ma fun x => G (Nat.blt p.1 big) (V (Nat.add p.1 1, x :: p.2) ck)) N Q := fun hc => by
  obtain ⟨x, e1, h⟩ := he _ hc
  obtain ⟨hb, h⟩ := G_ok h
  obtain ⟨y, e2, q⟩ := hk _ h
  refine ⟨y, ?_, q⟩
  have hb : p.1 < big := Nat.blt_eq.mp hb
  simp only [exec, hs, oR, e1, R.bind, appD, pu x, if_true]
  rw [if_pos (by simp only [List.length_map, List.length_reverse, List.length_take]; omega)]
  have : Sl.o1 (List.map ea (List.take p.1 p.2).reverse ++ [ea x]) = oR ea (Nat.add p.1 1, x :: p.2) := by
    unfold oR
    simp only [Nat.add_eq, List.take_succ_cons, List.reverse_cons, List.map_append, List.map_cons, List.map_nil]
  rw [this]
  exact e2
theorem J_sto {xs : List α} {mi : C Nat} {ck : List α → Bool} {ix : IE} (hs : (ρ[i]? : Option Sl) = some (oP ea xs)) (he : OkE call ρ e ea ma) (hi : OkE call ρ ix eN mi) (pu : Pu ea) (hk : ∀ ys, J call mt (ρ.set i (oP ea ys)) k (ck ys) N Q) :
    J call mt ρ (.sto i ix e k) (ma fun x => mi fun n => setC n xs x ck) N Q := fun hc => by
  obtain ⟨x, e1, h⟩ := he _ hc
  obtain ⟨n, e2, h⟩ := hi _ h
  obtain ⟨hn, h⟩ := setC_ok h
  obtain ⟨y, e3, q⟩ := hk _ h
  refine ⟨y, ?_, q⟩
  have e4 : L2.ixN (xs.map ea).length (Int.ofNat n) = some n := by
    unfold L2.ixN
    rw [List.length_map, if_pos (by show (0 : Int) ≤ (n : Int); omega), if_pos (by show (n : Int) < _; omega)]
    rfl
  simp only [exec, hs, oP, e1, e2, eN, R.bind, pu x, if_true, stoD, e4]
  unfold oP at e3
  rw [List.map_set] at e3
  exact e3
theorem J_aug {o : Bop} {x : α} {f : α → α → C α} {ck : α → Bool} {g : α → Int} (hs : (ρ[i]? : Option Sl) = some (.sh (ea x))) (hg : ∀ y, ea y = .int (g y)) (he : OkE call ρ e ea ma) (hf : ∀ y k, f x y k = true → ∃ z, augOp o (g x) (g y) = g z ∧ k z = true)
    (hk : ∀ z, J call mt (ρ.set i (.sh (ea z))) k (ck z) N Q) : J call mt ρ (.aug o i e k) (ma fun y => f x y ck) N Q := fun hc => by
  obtain ⟨y, e1, h⟩ := he _ hc
  obtain ⟨z, e2, h⟩ := hf _ _ h
  obtain ⟨w, e3, q⟩ := hk _ h
  refine ⟨w, ?_, q⟩
  rw [hg] at e3 e1 hs
  simp only [exec, hs, e1, R.bind, augD, e2]
  exact e3
theorem ag_addN : ∀ (x y : Nat) (k : Nat → Bool), addN x y k = true → ∃ z, augOp .add (Int.ofNat x) (Int.ofNat y) = Int.ofNat z ∧ k z = true := fun x y k h => ⟨_, rfl, h⟩
theorem J_expr {x : Bool} (he : OkE call ρ e ea ma) (hk : J call mt ρ k x N Q) : J call mt ρ (.expr e k) (ma fun _ => x) N Q := fun hc => by
  obtain ⟨_, e1, h⟩ := he _ hc
  obtain ⟨y, e2, q⟩ := hk h
  exact ⟨y, by simp only [exec, e1, R.bind]; exact e2, q⟩
theorem J_fgt {fz : List Nat} {x : Bool} (hk : J call mt (wipeE ρ fz) k x N Q) : J call mt ρ (.fgt fz k) x N Q := fun hc => by
  obtain ⟨y, e2, q⟩ := hk hc
  exact ⟨y, by simp only [exec]; exact e2, q⟩
theorem J_unp {t : Tg} {E : α → Env} {ck : α → Bool} (he : OkE call ρ e ea ma) (pu : Pu ea) (hb : ∀ x, bindT t (ea x) ρ = some (E x)) (hk : ∀ x, J call mt (E x) k (ck x) N Q) : J call mt ρ (.unp none t e k) (ma ck) N Q := fun hc => by
  obtain ⟨x, e1, h⟩ := he _ hc
  obtain ⟨y, e2, q⟩ := hk x h
  exact ⟨y, by simp only [exec, e1, R.bind, unpD, pu x, if_true, hb x]; exact e2, q⟩
theorem J_unpz {fz : List Nat} {t : Tg} {E : α → Env} {ck : α → Bool} (he : OkE call (hideAt fz 0 ρ) e ea ma) (hb : ∀ x, bindT t (ea x) (give fz ρ) = some (E x)) (hk : ∀ x, J call mt (E x) k (ck x) N Q) : J call mt ρ (.unp (some fz) t e k) (ma ck) N Q := fun hc => by
  obtain ⟨x, e1, h⟩ := he _ hc
  obtain ⟨y, e2, q⟩ := hk x h
  exact ⟨y, by simp only [exec, e1, R.bind, unpZ, hb x]; exact e2, q⟩
theorem J_par {is : List Nat} {ds : α → List PyData} {ck : α → Bool} (he : OkE call ρ e ea ma) (pu : Pu ea) (hd : ∀ x, ea x = .tuple (ds x) ∧ (ds x).length = is.length) (hk : ∀ x, J call mt (setMany is (ds x) ρ) k (ck x) N Q) : J call mt ρ (.par none is e k) (ma ck) N Q := fun hc => by
  obtain ⟨x, e1, h⟩ := he _ hc
  obtain ⟨y, e2, q⟩ := hk x h
  have p := pu x
  rw [(hd x).1] at p e1
  simp only [pure?] at p
  exact ⟨y, by simp only [exec, e1, R.bind, parD, p, (hd x).2, decide_true, Bool.and_self, if_true]; exact e2, q⟩
theorem J_parz {fz is : List Nat} {ds : α → List PyData} {ck : α → Bool} (he : OkE call (hideAt fz 0 ρ) e ea ma) (hd : ∀ x, ea x = .tuple (ds x) ∧ (ds x).length = is.length) (hk : ∀ x, J call mt (setMany is (ds x) (give fz ρ)) k (ck x) N Q) : J call mt ρ (.par (some fz) is e k) (ma ck) N Q := fun hc => by
  obtain ⟨x, e1, h⟩ := he _ hc
  obtain ⟨y, e2, q⟩ := hk x h
  rw [(hd x).1] at e1
  exact ⟨y, by simp only [exec, e1, R.bind, parZ, (hd x).2, decide_true, if_true]; exact e2, q⟩
/-- side by side, with lists of one's own -/
def OkS (call : Nat → List PyData → R PyData) (ρ : Env) (o : Bool) (e : IE) (f : α → Sl) (m : C α) : Prop := ∀ k, m k = true → ∃ x, (ev call e ρ).bind (slO o) = .ok (f x) ∧ k x = true
theorem S_sh (he : OkE call ρ e ea ma) (pu : Pu ea) : OkS call ρ false e (fun x => .sh (ea x)) ma := fun k hk => by
  obtain ⟨x, e1, h⟩ := he _ hk
  exact ⟨x, by simp only [e1, R.bind, slO, pu x, if_true]; rfl, h⟩
theorem S_oP {ml : C (List α)} (he : OkE call ρ e (eL ea) ml) (pu : Pu ea) : OkS call ρ true e (oP ea) ml := fun k hk => by
  obtain ⟨x, e1, h⟩ := he _ hk
  exact ⟨x, by simp only [e1, R.bind, slO, eL, pus pu x, if_true]; rfl, h⟩
theorem S_oR {ml : C (List α)} (he : OkE call ρ e (eL ea) ml) (pu : Pu ea) : OkS call ρ true e (oR ea) (fun k => ml fun xs => V (inR xs) k) := fun k hk => by
  obtain ⟨x, e1, h⟩ := he _ hk
  exact ⟨_, by simp only [e1, R.bind, slO, eL, pus pu x, if_true, oR_in], h⟩
theorem J_par2 {o1 o2 : Bool} {i1 i2 : Nat} {e1 e2 : IE} {f : α → Sl} {g : β → Sl} {mb : C β} {ck : α → β → Bool} (h1 : Nat.blt i1 ρ.length = true) (h2 : Nat.blt i2 ρ.length = true) (ha : OkS call ρ o1 e1 f ma) (hb : OkS call ρ o2 e2 g mb)
    (hk : ∀ x y, J call mt ((ρ.set i1 (f x)).set i2 (g y)) k (ck x y) N Q) : J call mt ρ (.par2 o1 o2 i1 i2 e1 e2 k) (ma fun x => mb fun y => ck x y) N Q := fun hc => by
  obtain ⟨x, q1, h⟩ := ha _ hc
  obtain ⟨y, q2, h⟩ := hb _ h
  obtain ⟨w, q3, q⟩ := hk x y h
  refine ⟨w, ?_, q⟩
  simp only [exec, q1, q2]
  show par2D i1 i2 _ ρ (f x) (g y) = _
  unfold par2D
  rw [decide_eq_true (Nat.blt_eq.mp h1), decide_eq_true (Nat.blt_eq.mp h2)]
  exact q3
/-! ways -/
theorem J_if1 {f : α → Bool} {ca cb : Bool} (ht : Tru ea f) (he : OkE call ρ c ea ma) (ha : J call mt ρ a ca (fun _ => False) Q) (hk : J call mt ρ k cb N Q) : J call mt ρ (.ite c a .done k) (ma fun x => cB (f x) ca cb) N Q := fun hc => by
  obtain ⟨x, e1, h⟩ := he _ hc
  rcases cB_ok h with ⟨q, h⟩ | ⟨q, h⟩
  · obtain ⟨y, e2, w⟩ := ha h
    refine ⟨y, ?_, ?_⟩
    · simp only [exec, e1, R.bind, ht x, q, if_true, e2]
      cases y with
      | next τ => exact w.elim
      | ret d => rfl
    · cases y with
      | next τ => exact w.elim
      | ret d => exact w
  · obtain ⟨y, e2, w⟩ := hk h
    refine ⟨y, ?_, w⟩
    simp only [exec, e1, R.bind, ht x, q]
    exact e2
theorem J_if2 {f : α → Bool} {ca cb : Bool} (ht : Tru ea f) (he : OkE call ρ c ea ma) (ha : J call mt ρ a ca (fun _ => False) Q) (hb : J call mt ρ b cb (fun _ => False) Q) : J call mt ρ (.ite c a b k) (ma fun x => cB (f x) ca cb) N Q := fun hc => by
  obtain ⟨x, e1, h⟩ := he _ hc
  rcases cB_ok h with ⟨q, h⟩ | ⟨q, h⟩
  · obtain ⟨y, e2, w⟩ := ha h
    cases y with
    | next τ => exact w.elim
    | ret d => exact ⟨.ret d, by simp only [exec, e1, R.bind, ht x, q, if_true, e2]; rfl, w⟩
  · obtain ⟨y, e2, w⟩ := hb h
    cases y with
    | next τ => exact w.elim
    | ret d => exact ⟨.ret d, by simp only [exec, e1, R.bind, ht x, q]; rw [if_neg (by decide), e2]; rfl, w⟩
theorem J_ifS (hC : MonoC call) (hN : MonoN N) (hQ : CloQ Q) {f : α → Bool} {E : S → Env} {ca cb : (S → Bool) → Bool} {ck : S → Bool} (ht : Tru ea f) (he : OkE call ρ c ea ma) (ha : ∀ j, J call mt ρ a (ca j) (Nx E j) Q) (hb : ∀ j, J call mt ρ b (cb j) (Nx E j) Q) (hk : ∀ s, J call mt (E s) k (ck s) N Q) :
    J call mt ρ (.ite c a b k) (joinC (fun j => ma fun x => cB (f x) (ca j) (cb j)) ck) N Q := fun hc => by
  obtain ⟨x, e1, h⟩ := he _ hc
  have key : ∀ st cc, J call mt ρ st cc (Nx E ck) Q → cc = true → ∃ y, R.next (exec call mt st ρ) (exec call mt k) = .ok y ∧ Post N Q y := fun st cc hj hcc => by
    obtain ⟨y, e2, w⟩ := hj hcc
    cases y with
    | ret d => exact ⟨.ret d, by rw [e2]; rfl, w⟩
    | next τ =>
      obtain ⟨s, g, hs⟩ := w
      obtain ⟨z, e3, w⟩ := J_le hC hN hQ g (hk s) hs
      exact ⟨z, by rw [e2]; exact e3, w⟩
  rcases cB_ok h with ⟨q, h⟩ | ⟨q, h⟩
  · obtain ⟨y, e2, w⟩ := key a _ (ha ck) h
    exact ⟨y, by simp only [exec, e1, R.bind, ht x, q, if_true]; exact e2, w⟩
  · obtain ⟨y, e2, w⟩ := key b _ (hb ck) h
    exact ⟨y, by simp only [exec, e1, R.bind, ht x, q]; exact e2, w⟩
/-! loops -/
theorem forC_ok (hC : MonoC call) (hN : MonoN N) (hQ : CloQ Q) {ex : X → PyData} {E : S → Env} {Eb : X → S → Env} {t : Tg} {cb : X → S → (S → Bool) → Bool} {ck : S → Bool} (hb : ∀ x s, bindT t (ex x) (E s) = some (Eb x s)) (hbody : ∀ x s j, J call mt (Eb x s) body (cb x s j) (Nx E j) Q) (hk : ∀ s, J call mt (E s) k (ck s) N Q) :
    ∀ (xs : List X) (s : S) (σ : Env), FkE (E s) σ → forC cb xs s ck = true → ∃ y, R.next (forGo t (exec call mt body) (xs.map ex) σ) (exec call mt k) = .ok y ∧ Post N Q y
  | [], s, σ, g, h => by
    obtain ⟨y, e1, w⟩ := J_le hC hN hQ g (hk s) h
    exact ⟨y, e1, w⟩
  | x :: xs, s, σ, g, h => by
    have h : cb x s (fun s' => forC cb xs s' ck) = true := h
    rcases g.bind (t := t) (Fk.refl (ex x)) with z | ⟨τ, τ', e1, e2, g2⟩
    · rw [hb x s] at z; cases z
    · rw [hb x s] at e1
      cases e1
      obtain ⟨y, e3, w⟩ := J_le hC mono_Nx hQ g2 (hbody x s _) h
      rw [List.map_cons]
      unfold forGo
      rw [e2]
      dsimp only
      rw [e3]
      cases y with
      | ret d => exact ⟨.ret d, rfl, w⟩
      | next τ1 =>
        obtain ⟨s', g3, hs⟩ := w
        exact forC_ok hC hN hQ hb hbody hk xs s' τ1 g3 hs
theorem J_for (hC : MonoC call) (hN : MonoN N) (hQ : CloQ Q) {ex : X → PyData} {mx : C (List X)} {it : IE} {fz : List Nat} {E : S → Env} {Eb : X → S → Env} {t : Tg} {cb : X → S → (S → Bool) → Bool} {ck : S → Bool} {s0 : S} (hi : OkE call (hideAt fz 0 ρ) it (eL ex) mx) (h0 : FkE (E s0) (give fz ρ))
    (hb : ∀ x s, bindT t (ex x) (E s) = some (Eb x s)) (hbody : ∀ x s j, J call mt (Eb x s) body (cb x s j) (Nx E j) Q) (hk : ∀ s, J call mt (E s) k (ck s) N Q) :
    J call mt ρ (.for_ t fz it body k) (mx fun xs => forC cb xs s0 ck) N Q := fun hc => by
  obtain ⟨xs, e1, h⟩ := hi _ hc
  obtain ⟨y, e2, w⟩ := forC_ok hC hN hQ hb hbody hk xs s0 _ h0 h
  exact ⟨y, by simp only [exec, e1, R.bind, eL, forD]; exact e2, w⟩
theorem whileC_ok (hC : MonoC call) (hN : MonoN N) (hQ : CloQ Q) {E : S → Env} {cc : S → C α} {f : α → Bool} {cb : S → (S → Bool) → Bool} {ck : S → Bool} (ht : Tru ea f) (hc : ∀ s, OkE call (E s) c ea (cc s)) (hbody : ∀ s j, J call mt (E s) body (cb s j) (Nx E j) Q) (hk : ∀ s, J call mt (E s) k (ck s) N Q) :
    ∀ (n : Nat) (s : S) (σ : Env), FkE (E s) σ → whileC (fun s k => cc s fun x => k (f x)) cb n s ck = true → ∃ y, R.next (whileGo (ev call c) (exec call mt body) n σ) (exec call mt k) = .ok y ∧ Post N Q y
  | 0, s, σ, g, h => by cases h
  | n + 1, s, σ, g, h => by
    have h : cc s (fun x => cB (f x) (cb s fun s' => whileC (fun s k => cc s fun x => k (f x)) cb n s' ck) (ck s)) = true := h
    obtain ⟨x, e1, h⟩ := hc s _ h
    have z2 := fk_ev hC c _ _ g
    rw [e1] at z2
    obtain ⟨d', e2, q⟩ := z2
    have z := fk_truth q
    rw [ht x] at z
    obtain ⟨b', e3, rfl⟩ := z
    unfold whileGo
    rw [e2]
    simp only [R.bind, e3]
    rcases cB_ok h with ⟨q1, h⟩ | ⟨q1, h⟩
    · obtain ⟨y, e4, w⟩ := J_le hC mono_Nx hQ g (hbody s _) h
      rw [q1, if_pos rfl, e4]
      cases y with
      | ret d => exact ⟨.ret d, rfl, w⟩
      | next τ1 =>
        obtain ⟨s', g3, hs⟩ := w
        exact whileC_ok hC hN hQ ht hc hbody hk n s' τ1 g3 hs
    · obtain ⟨y, e4, w⟩ := J_le hC hN hQ g (hk s) h
      rw [q1, if_neg (by decide)]
      exact ⟨y, e4, w⟩
theorem J_while (hC : MonoC call) (hN : MonoN N) (hQ : CloQ Q) {n : Nat} {E : S → Env} {cc : S → C α} {f : α → Bool} {cb : S → (S → Bool) → Bool} {ck : S → Bool} {s0 : S} (h0 : FkE (E s0) ρ) (ht : Tru ea f) (hc : ∀ s, OkE call (E s) c ea (cc s)) (hbody : ∀ s j, J call mt (E s) body (cb s j) (Nx E j) Q) (hk : ∀ s, J call mt (E s) k (ck s) N Q) :
    J call mt ρ (.while_ n c body k) (whileC (fun s k => cc s fun x => k (f x)) cb n s0 ck) N Q := fun h => by
  obtain ⟨y, e2, w⟩ := whileC_ok hC hN hQ ht hc hbody hk n s0 _ h0 h
  exact ⟨y, by simp only [exec]; exact e2, w⟩
end
/-! ### defs -/
section
variable {T : Tab} {bs : List (Nat × IS)} {mt : Nat → Nat → Option Bool} {α β γ δ ε : Type} {ea : α → PyData} {eb : β → PyData} {ec : γ → PyData} {ed : δ → PyData} {er : ε → PyData} {j n np r : Nat} {B : IS} {dfl : List PyData}
def At1 (T : Tab) (bs : List (Nat × IS)) (mt : Nat → Nat → Option Bool) (r j : Nat) (ea : α → PyData) (er : ε → PyData) (f : α → C ε) : Prop := ∀ d, r ≤ d → Sp1 (callT T (runs T bs mt d)) j ea er f
def At2 (T : Tab) (bs : List (Nat × IS)) (mt : Nat → Nat → Option Bool) (r j : Nat) (ea : α → PyData) (eb : β → PyData) (er : ε → PyData) (f : α → β → C ε) : Prop := ∀ d, r ≤ d → Sp2 (callT T (runs T bs mt d)) j ea eb er f
def At3 (T : Tab) (bs : List (Nat × IS)) (mt : Nat → Nat → Option Bool) (r j : Nat) (ea : α → PyData) (eb : β → PyData) (ec : γ → PyData) (er : ε → PyData) (f : α → β → γ → C ε) : Prop := ∀ d, r ≤ d → Sp3 (callT T (runs T bs mt d)) j ea eb ec er f
def At4 (T : Tab) (bs : List (Nat × IS)) (mt : Nat → Nat → Option Bool) (r j : Nat) (ea : α → PyData) (eb : β → PyData) (ec : γ → PyData) (ed : δ → PyData) (er : ε → PyData) (f : α → β → γ → δ → C ε) : Prop := ∀ d, r ≤ d → Sp4 (callT T (runs T bs mt d)) j ea eb ec ed er f
/-- what a def ends with, when it falls off its end -/
abbrev NoN (er : ε → PyData) (k : ε → Bool) : Env → Prop := fun _ => ∃ a, er a = .none ∧ k a = true
theorem fin_ok {call : Nat → List PyData → R PyData} {ρ : Env} {c : Bool} {k : ε → Bool} (h : J call mt ρ B c (NoN er k) (Rt er k)) (hc : c = true) : ∃ a, fin (exec call mt B ρ) = .ok (er a) ∧ k a = true := by
  obtain ⟨x, e, q⟩ := h hc
  rw [e]
  cases x with
  | next τ => obtain ⟨a, e1, h⟩ := q; exact ⟨a, by rw [e1]; rfl, h⟩
  | ret d => obtain ⟨a, rfl, h⟩ := q; exact ⟨a, rfl, h⟩
theorem monoC (d : Nat) : MonoC (callT T (runs T bs mt d)) := fun j xs ys q => call_mono (Nat.le_refl d) j xs ys q
theorem at1 {f : α → C ε} (h : Q.Has T bs j n B np dfl) (hj : ∀ d, r ≤ d → ∀ x k, J (callT T (runs T bs mt d)) mt (envOf n ([ea x] ++ dfl.drop (dfl.length - (np - 1)))) B (f x k) (NoN er k) (Rt er k)) : At1 T bs mt (r + 1) j ea er f := fun d hd x k hk => by
  obtain ⟨d', rfl⟩ : ∃ d', d = d' + 1 := ⟨d - 1, by omega⟩
  obtain ⟨a, e, q⟩ := fin_ok (hj d' (by omega) x k) hk
  exact ⟨a, by rw [Q.call_eq h]; exact e, q⟩
theorem at2 {f : α → β → C ε} (h : Q.Has T bs j n B np dfl) (hj : ∀ d, r ≤ d → ∀ x y k, J (callT T (runs T bs mt d)) mt (envOf n ([ea x, eb y] ++ dfl.drop (dfl.length - (np - 2)))) B (f x y k) (NoN er k) (Rt er k)) : At2 T bs mt (r + 1) j ea eb er f := fun d hd x y k hk => by
  obtain ⟨d', rfl⟩ : ∃ d', d = d' + 1 := ⟨d - 1, by omega⟩
  obtain ⟨a, e, q⟩ := fin_ok (hj d' (by omega) x y k) hk
  exact ⟨a, by rw [Q.call_eq h]; exact e, q⟩
theorem at3 {f : α → β → γ → C ε} (h : Q.Has T bs j n B np dfl) (hj : ∀ d, r ≤ d → ∀ x y z k, J (callT T (runs T bs mt d)) mt (envOf n ([ea x, eb y, ec z] ++ dfl.drop (dfl.length - (np - 3)))) B (f x y z k) (NoN er k) (Rt er k)) : At3 T bs mt (r + 1) j ea eb ec er f := fun d hd x y z k hk => by
  obtain ⟨d', rfl⟩ : ∃ d', d = d' + 1 := ⟨d - 1, by omega⟩
  obtain ⟨a, e, q⟩ := fin_ok (hj d' (by omega) x y z k) hk
  exact ⟨a, by rw [Q.call_eq h]; exact e, q⟩
theorem at4 {f : α → β → γ → δ → C ε} (h : Q.Has T bs j n B np dfl) (hj : ∀ d, r ≤ d → ∀ x y z w k, J (callT T (runs T bs mt d)) mt (envOf n ([ea x, eb y, ec z, ed w] ++ dfl.drop (dfl.length - (np - 4)))) B (f x y z w k) (NoN er k) (Rt er k)) : At4 T bs mt (r + 1) j ea eb ec ed er f := fun d hd x y z w k hk => by
  obtain ⟨d', rfl⟩ : ∃ d', d = d' + 1 := ⟨d - 1, by omega⟩
  obtain ⟨a, e, q⟩ := fin_ok (hj d' (by omega) x y z w k) hk
  exact ⟨a, by rw [Q.call_eq h]; exact e, q⟩
theorem At1.up {f : α → C ε} {r' : Nat} (h : At1 T bs mt r j ea er f) (hr : r ≤ r') : At1 T bs mt r' j ea er f := fun d hd => h d (Nat.le_trans hr hd)
theorem At2.up {f : α → β → C ε} {r' : Nat} (h : At2 T bs mt r j ea eb er f) (hr : r ≤ r') : At2 T bs mt r' j ea eb er f := fun d hd => h d (Nat.le_trans hr hd)
/-! by the quick reader -/
noncomputable section
/-- a truth, as the quick reader tells it -/
def dynB (mt : Nat → Nat → Option Bool) (tr : Tr) (d j : Nat) (xs : List PyData) : C Bool := fun k => R.rec (motive := fun _ => Bool) (fun x => PyData.casesOn (motive_1 := fun _ => Bool) x false k (fun _ => false) (fun _ => false) (fun _ => false) (fun _ => false) (fun _ => false)) (fun _ => false) false (rF mt tr d j xs)
end
theorem dynB_ok {tr : Tr} {c d0 : Nat} (ht : TrOk T bs mt c tr) {xs : List PyData} {k : Bool → Bool} (h : dynB mt tr d0 j xs k = true) {d : Nat} (hd : d0 + c ≤ d) : ∃ b, callT T (runs T bs mt d) j xs = .ok (eB b) ∧ k b = true := by
  unfold dynB at h
  have q1 := rF_ok ht d0 j xs xs (FkA.refl xs)
  have q2 := call_mono (T := T) (bs := bs) (mt := mt) hd j xs xs (FkA.refl xs)
  cases e : rF mt tr d0 j xs with
  | ok x =>
    rw [e] at h q1
    obtain ⟨y, e1, f1⟩ := q1
    rw [e1] at q2
    obtain ⟨z, e2, f2⟩ := q2
    cases x with
    | bool b =>
      have := f1.bool
      subst this
      have := f2.bool
      subst this
      exact ⟨b, e2, h⟩
    | _ => cases h
  | ex c => rw [e] at h; cases h
  | bad => rw [e] at h; cases h
end
end DL.TC
namespace DL.TC
open PySem PySem.Spec PyProof.Rows L2
/-! ### fractions -/
noncomputable section
def lowF (n d : Nat) : Nat × Nat := (fun g => (Nat.div n g, Nat.div d g)) (Nat.gcd n d)
def lowZ (t : Int) (d : Nat) : Int × Nat := Int.rec (motive := fun _ => Int × Nat) (fun n => (fun g => (Int.ofNat (Nat.div n g), Nat.div d g)) (Nat.gcd n d)) (fun n => (fun g => (Int.negOfNat (Nat.div (Nat.add n 1) g), Nat.div d g)) (Nat.gcd (Nat.add n 1) d)) t
def gd4 (t b u v : Nat) (r : Bool) : Bool := G (Nat.ble 1 (Nat.mul b v)) (G (Nat.blt (Nat.add (Nat.add t b) (Nat.add u v)) big256) r)
def gd3 (t b u v : Nat) (r : Bool) : Bool := G (Nat.blt (Nat.add (Nat.add t b) (Nat.add u v)) big256) r
def addF4 (t b u v : Nat) : C (Nat × Nat) := fun k => gd4 t b u v (k (lowF (Nat.add (Nat.mul t v) (Nat.mul u b)) (Nat.mul b v)))
def addF (p q : Nat × Nat) : C (Nat × Nat) := addF4 p.1 p.2 q.1 q.2
def lessF4 (t b u v : Nat) : C (Nat × Nat) := fun k => gd4 t b u v (G (Nat.ble (Nat.mul u b) (Nat.mul t v)) (k (lowF (Nat.sub (Nat.mul t v) (Nat.mul u b)) (Nat.mul b v))))
def lessF (p q : Nat × Nat) : C (Nat × Nat) := lessF4 p.1 p.2 q.1 q.2
def mulF4 (t b u v : Nat) : C (Nat × Nat) := fun k => gd4 t b u v (k (lowF (Nat.mul t u) (Nat.mul b v)))
def mulF (p q : Nat × Nat) : C (Nat × Nat) := mulF4 p.1 p.2 q.1 q.2
def overF4 (t b u v : Nat) : C (Nat × Nat) := fun k => gd4 t b v u (k (lowF (Nat.mul t v) (Nat.mul b u)))
def overF (p q : Nat × Nat) : C (Nat × Nat) := overF4 p.1 p.2 q.1 q.2
def underF4 (t b u v : Nat) : C Bool := fun k => gd3 t b u v (k (Nat.blt (Nat.mul t v) (Nat.mul u b)))
def underF (p q : Nat × Nat) : C Bool := underF4 p.1 p.2 q.1 q.2
def lowC (n d : Nat) : C (Nat × Nat) := fun k => G (Nat.ble 1 d) (G (Nat.blt d big256) (k (lowF n d)))
def sumF (xs : List (Nat × Nat)) : Nat × Nat → C (Nat × Nat) := List.rec (motive := fun _ => Nat × Nat → (Nat × Nat → Bool) → Bool) (fun p k => k p) (fun q _ ih p k => addF p q fun r => ih r k) xs
def totF (xs : List (Nat × Nat)) : C (Nat × Nat) := sumF xs (0, 1)
def isrF (p : Nat × Nat) : C Bool := fun k => G (Nat.blt p.2 big256) (k (cB (Nat.ble 1 p.2) (Nat.beq (Nat.gcd p.1 p.2) 1) false))
/-! with a sign -/
def absS (i : Int) : Nat := Int.rec (motive := fun _ => Nat) (fun n => n) (fun n => Nat.add n 1) i
def mulS (i : Int) (n : Nat) : Int := Int.rec (motive := fun _ => Int) (fun m => Int.ofNat (Nat.mul m n)) (fun m => Int.negOfNat (Nat.mul (Nat.add m 1) n)) i
def addZ (p q : Int × Nat) : C (Int × Nat) := fun k => gd4 (absS p.1) p.2 (absS q.1) q.2 (k (lowZ (Int.add (mulS p.1 q.2) (mulS q.1 p.2)) (Nat.mul p.2 q.2)))
def lessZ (p q : Int × Nat) : C (Int × Nat) := fun k => gd4 (absS p.1) p.2 (absS q.1) q.2 (k (lowZ (Int.sub (mulS p.1 q.2) (mulS q.1 p.2)) (Nat.mul p.2 q.2)))
def mulZ (p q : Int × Nat) : C (Int × Nat) := fun k => gd4 (absS p.1) p.2 (absS q.1) q.2 (k (lowZ (Int.mul p.1 q.1) (Nat.mul p.2 q.2)))
def underZ (p q : Int × Nat) : C Bool := fun k => gd3 (absS p.1) p.2 (absS q.1) q.2 (k (ltF (mulS p.1 q.2) (mulS q.1 p.2)))
def lowCZ (t : Int) (d : Nat) : C (Int × Nat) := fun k => G (Nat.ble 1 d) (G (Nat.blt d big256) (k (lowZ t d)))
def sumZ (xs : List (Int × Nat)) : Int × Nat → C (Int × Nat) := List.rec (motive := fun _ => Int × Nat → (Int × Nat → Bool) → Bool) (fun p k => k p) (fun q _ ih p k => addZ p q fun r => ih r k) xs
def totZ (xs : List (Int × Nat)) : C (Int × Nat) := sumZ xs (0, 1)
/-- a fraction as one with a sign, and back -/
def toZ (p : Nat × Nat) : Int × Nat := (Int.ofNat p.1, p.2)
def ofZ (p : Int × Nat) : C (Nat × Nat) := fun k => Int.rec (motive := fun _ => Bool) (fun n => k (n, p.2)) (fun _ => false) p.1
def ofI (i : Int) : C Nat := fun k => Int.rec (motive := fun _ => Bool) k (fun _ => false) i
end
theorem ofI_ok {x : Int} {k : Nat → Bool} (h : ofI x k = true) : ∃ y, eI x = eN y ∧ k y = true := by
  cases x with
  | ofNat n => exact ⟨n, rfl, h⟩
  | negSucc n => cases h
theorem ofZ_ok {p : Int × Nat} {k : Nat × Nat → Bool} (h : ofZ p k = true) : ∃ q, eZ p = eF q ∧ k q = true := by
  obtain ⟨x, d⟩ := p
  cases x with
  | ofNat n => exact ⟨(n, d), rfl, h⟩
  | negSucc n => cases h
theorem lowF_eq (n d : Nat) : eF (lowF n d) = Q.lowP (Int.ofNat n) (Int.ofNat d) := rfl
theorem lowZ_eq (t : Int) (d : Nat) : eZ (lowZ t d) = Q.lowP t (Int.ofNat d) := by
  cases t with
  | ofNat n => rfl
  | negSucc n =>
    have e : Int.gcd (Int.negSucc n) (Int.ofNat d) = Nat.gcd (n + 1) d := rfl
    unfold Q.lowP
    rw [e]
    show PyData.tuple [.int (Int.negOfNat ((n + 1) / Nat.gcd (n + 1) d)), .int ((d / Nat.gcd (n + 1) d : Nat) : Int)] = _
    congr 2
    · congr 1
      have hd : ((Nat.gcd (n + 1) d : Nat) : Int) ∣ ((n + 1 : Nat) : Int) := Int.natCast_dvd_natCast.mpr (Nat.gcd_dvd_left _ _)
      have e1 : Int.negSucc n = -((n + 1 : Nat) : Int) := rfl
      rw [e1, Int.neg_ediv_of_dvd hd, Int.negOfNat_eq]
      rfl
theorem absS_eq (i : Int) : absS i = i.natAbs := by cases i <;> rfl
theorem mulS_eq (i : Int) (n : Nat) : mulS i n = i * (n : Int) := by
  cases i with
  | ofNat m => rfl
  | negSucc m =>
    show Int.negOfNat ((m + 1) * n) = _
    rw [Int.negOfNat_eq]
    have e1 : Int.negSucc m = -((m + 1 : Nat) : Int) := rfl
    rw [e1, Int.neg_mul]
    rfl
theorem gd3_ok {t b u v : Nat} {r : Bool} (h : gd3 t b u v r = true) : (t < big256 ∧ b < big256 ∧ u < big256 ∧ v < big256) ∧ r = true := by
  obtain ⟨h2, h⟩ := G_ok h
  have h2 : t + b + (u + v) < big256 := Nat.blt_eq.mp h2
  exact ⟨⟨by omega, by omega, by omega, by omega⟩, h⟩
theorem gd4_ok {t b u v : Nat} {r : Bool} (h : gd4 t b u v r = true) : 0 < b ∧ 0 < v ∧ (t < big256 ∧ b < big256 ∧ u < big256 ∧ v < big256) ∧ r = true := by
  obtain ⟨h1, h⟩ := G_ok h
  obtain ⟨h2, h⟩ := gd3_ok h
  have h1 : 1 ≤ b * v := Nat.ble_eq.mp h1
  refine ⟨?_, ?_, h2, h⟩
  · rcases Nat.eq_zero_or_pos b with z | z
    · rw [z, Nat.zero_mul] at h1; omega
    · exact z
  · rcases Nat.eq_zero_or_pos v with z | z
    · rw [z, Nat.mul_zero] at h1; omega
    · exact z
theorem mid_of {n : Nat} (h : n < big256) : Q.midI (Int.ofNat n) = true := Nat.blt_eq.mpr h
theorem mid_ofI {i : Int} (h : absS i < big256) : Q.midI i = true := Nat.blt_eq.mpr (by rw [← absS_eq]; exact h)
section
variable {T : Tab} {bs : List (Nat × IS)} {mt : Nat → Nat → Option Bool} {j r w c e : Nat}
theorem low_at {t b : Int} (hr : Q.LowAt T bs mt r) {d : Nat} (hd : 2 ≤ d) (h1 : 0 < b) (h2 : b.natAbs < Q.big9) : callT T (runs T bs mt d) r [.int t, .int b] = .ok (Q.lowP t b) := by
  obtain ⟨d', rfl⟩ : ∃ d', d = d' + 2 := ⟨d - 2, by omega⟩
  exact hr d' t b h1 h2
theorem pos_mul {b v : Nat} (hb : 0 < b) (hv : 0 < v) : (0 : Int) < Int.ofNat b * Int.ofNat v := by
  have : 0 < b * v := Nat.mul_pos hb hv
  show (0 : Int) < (b : Int) * (v : Int)
  rw [← Int.natCast_mul]
  omega
theorem at_low (hr : Q.LowAt T bs mt r) : At2 T bs mt 2 r eN eN eF lowC := fun d hd n b k h => by
  obtain ⟨h1, h⟩ := G_ok h
  obtain ⟨h2, h⟩ := G_ok h
  have h1 := Nat.ble_eq.mp h1
  have h2 : b < big256 := Nat.blt_eq.mp h2
  refine ⟨_, ?_, h⟩
  rw [lowF_eq]
  exact low_at hr hd (by show (0 : Int) < (b : Int); omega) (Q.mid_big (mid_of h2))
theorem at_lowZ (hr : Q.LowAt T bs mt r) : At2 T bs mt 2 r eI eN eZ lowCZ := fun d hd n b k h => by
  obtain ⟨h1, h⟩ := G_ok h
  obtain ⟨h2, h⟩ := G_ok h
  have h1 := Nat.ble_eq.mp h1
  have h2 : b < big256 := Nat.blt_eq.mp h2
  refine ⟨_, ?_, h⟩
  rw [lowZ_eq]
  exact low_at hr hd (by show (0 : Int) < (b : Int); omega) (Q.mid_big (mid_of h2))
theorem at_add (hr : Q.LowAt T bs mt r) (h : Q.Has T bs j 2 (Q.addIR r) 2 []) : At2 T bs mt 3 j eF eF eF addF := fun d hd p q k hk => by
  obtain ⟨d', rfl⟩ : ∃ d', d = d' + 1 := ⟨d - 1, by omega⟩
  obtain ⟨hb, hv, ⟨l1, l2, l3, l4⟩, hk⟩ := gd4_ok hk
  refine ⟨_, ?_, hk⟩
  rw [lowF_eq]
  have q1 := Q.add_ (mt := mt) (d := d') (mid_of l1) (mid_of l2) (mid_of l3) (mid_of l4) h
  exact q1.trans (low_at hr (by omega) (pos_mul hb hv) (Q.mid_mul (mid_of l2) (mid_of l4)))
theorem at_less (hr : Q.LowAt T bs mt r) (h : Q.Has T bs j 2 (Q.lessIR r) 2 []) : At2 T bs mt 3 j eF eF eF lessF := fun d hd p q k hk => by
  obtain ⟨d', rfl⟩ : ∃ d', d = d' + 1 := ⟨d - 1, by omega⟩
  obtain ⟨hb, hv, ⟨l1, l2, l3, l4⟩, hk⟩ := gd4_ok hk
  obtain ⟨hle, hk⟩ := G_ok hk
  have hle : q.1 * p.2 ≤ p.1 * q.2 := Nat.ble_eq.mp hle
  refine ⟨_, ?_, hk⟩
  rw [lowF_eq]
  have q1 := Q.less_ (mt := mt) (d := d') (mid_of l1) (mid_of l2) (mid_of l3) (mid_of l4) h
  have e : Int.ofNat p.1 * Int.ofNat q.2 - Int.ofNat q.1 * Int.ofNat p.2 = Int.ofNat (p.1 * q.2 - q.1 * p.2) := by
    show (p.1 : Int) * (q.2 : Int) - (q.1 : Int) * (p.2 : Int) = ((p.1 * q.2 - q.1 * p.2 : Nat) : Int)
    rw [Int.ofNat_sub hle, Int.natCast_mul, Int.natCast_mul]
  rw [e] at q1
  exact q1.trans (low_at hr (by omega) (pos_mul hb hv) (Q.mid_mul (mid_of l2) (mid_of l4)))
theorem at_mul (hr : Q.LowAt T bs mt r) (h : Q.Has T bs j 2 (Q.timesIR r) 2 []) : At2 T bs mt 3 j eF eF eF mulF := fun d hd p q k hk => by
  obtain ⟨d', rfl⟩ : ∃ d', d = d' + 1 := ⟨d - 1, by omega⟩
  obtain ⟨hb, hv, ⟨l1, l2, l3, l4⟩, hk⟩ := gd4_ok hk
  refine ⟨_, ?_, hk⟩
  rw [lowF_eq]
  have q1 := Q.times_ (mt := mt) (d := d') (mid_of l1) (mid_of l2) (mid_of l3) (mid_of l4) h
  exact q1.trans (low_at hr (by omega) (pos_mul hb hv) (Q.mid_mul (mid_of l2) (mid_of l4)))
theorem at_over (hr : Q.LowAt T bs mt r) (h : Q.Has T bs j 2 (Q.overIR r e) 2 []) : At2 T bs mt 3 j eF eF eF overF := fun d hd p q k hk => by
  obtain ⟨d', rfl⟩ : ∃ d', d = d' + 1 := ⟨d - 1, by omega⟩
  obtain ⟨hb, hu, ⟨l1, l2, l4, l3⟩, hk⟩ := gd4_ok hk
  refine ⟨_, ?_, hk⟩
  rw [lowF_eq]
  have q1 := Q.over_ (mt := mt) (d := d') (mid_of l1) (mid_of l2) (mid_of l3) (mid_of l4) (by show (q.1 : Int) ≠ 0; omega) h
  exact q1.trans (low_at hr (by omega) (pos_mul hb hu) (Q.mid_mul (mid_of l2) (mid_of l3)))
theorem at_under (h : Q.Has T bs j 2 Q.underIR 2 []) : At2 T bs mt 3 j eF eF eB underF := fun d hd p q k hk => by
  obtain ⟨d', rfl⟩ : ∃ d', d = d' + 1 := ⟨d - 1, by omega⟩
  obtain ⟨⟨l1, l2, l3, l4⟩, hk⟩ := gd3_ok hk
  refine ⟨_, ?_, hk⟩
  have q1 := Q.under_ (mt := mt) (d := d') (mid_of l1) (mid_of l2) (mid_of l3) (mid_of l4) h
  refine q1.trans ?_
  show R.ok (PyData.bool (decide ((p.1 : Int) * (q.2 : Int) < (q.1 : Int) * (p.2 : Int)))) = R.ok (PyData.bool (Nat.blt (p.1 * q.2) (q.1 * p.2)))
  congr 2
  rw [Bool.eq_iff_iff, Nat.blt_eq, decide_eq_true_iff, ← Int.natCast_mul, ← Int.natCast_mul]
  omega
theorem at_addZ (hr : Q.LowAt T bs mt r) (h : Q.Has T bs j 2 (Q.addIR r) 2 []) : At2 T bs mt 3 j eZ eZ eZ addZ := fun d hd p q k hk => by
  obtain ⟨d', rfl⟩ : ∃ d', d = d' + 1 := ⟨d - 1, by omega⟩
  obtain ⟨hb, hv, ⟨l1, l2, l3, l4⟩, hk⟩ := gd4_ok hk
  refine ⟨_, ?_, hk⟩
  rw [lowZ_eq, mulS_eq, mulS_eq]
  have q1 := Q.add_ (mt := mt) (d := d') (mid_ofI l1) (mid_of l2) (mid_ofI l3) (mid_of l4) h
  exact q1.trans (low_at hr (by omega) (pos_mul hb hv) (Q.mid_mul (mid_of l2) (mid_of l4)))
theorem at_lessZ (hr : Q.LowAt T bs mt r) (h : Q.Has T bs j 2 (Q.lessIR r) 2 []) : At2 T bs mt 3 j eZ eZ eZ lessZ := fun d hd p q k hk => by
  obtain ⟨d', rfl⟩ : ∃ d', d = d' + 1 := ⟨d - 1, by omega⟩
  obtain ⟨hb, hv, ⟨l1, l2, l3, l4⟩, hk⟩ := gd4_ok hk
  refine ⟨_, ?_, hk⟩
  rw [lowZ_eq, mulS_eq, mulS_eq]
  have q1 := Q.less_ (mt := mt) (d := d') (mid_ofI l1) (mid_of l2) (mid_ofI l3) (mid_of l4) h
  exact q1.trans (low_at hr (by omega) (pos_mul hb hv) (Q.mid_mul (mid_of l2) (mid_of l4)))
theorem at_mulZ (hr : Q.LowAt T bs mt r) (h : Q.Has T bs j 2 (Q.timesIR r) 2 []) : At2 T bs mt 3 j eZ eZ eZ mulZ := fun d hd p q k hk => by
  obtain ⟨d', rfl⟩ : ∃ d', d = d' + 1 := ⟨d - 1, by omega⟩
  obtain ⟨hb, hv, ⟨l1, l2, l3, l4⟩, hk⟩ := gd4_ok hk
  refine ⟨_, ?_, hk⟩
  rw [lowZ_eq]
  have q1 := Q.times_ (mt := mt) (d := d') (mid_ofI l1) (mid_of l2) (mid_ofI l3) (mid_of l4) h
  exact q1.trans (low_at hr (by omega) (pos_mul hb hv) (Q.mid_mul (mid_of l2) (mid_of l4)))
theorem at_underZ (h : Q.Has T bs j 2 Q.underIR 2 []) : At2 T bs mt 3 j eZ eZ eB underZ := fun d hd p q k hk => by
  obtain ⟨d', rfl⟩ : ∃ d', d = d' + 1 := ⟨d - 1, by omega⟩
  obtain ⟨⟨l1, l2, l3, l4⟩, hk⟩ := gd3_ok hk
  refine ⟨_, ?_, hk⟩
  have q1 := Q.under_ (mt := mt) (d := d') (mid_ofI l1) (mid_of l2) (mid_ofI l3) (mid_of l4) h
  refine q1.trans ?_
  rw [ltF_eq, mulS_eq, mulS_eq]
  rfl
theorem at_isr (hw : Q.Has T bs w 2 Q.wholeIR 2 [.none]) (hc : Q.Has T bs c 2 Q.commonIR 2 []) (h : Q.Has T bs j 1 (Q.isrIR w c) 1 []) : At1 T bs mt 3 j eF eB isrF := fun d hd p k hk => by
  obtain ⟨d', rfl⟩ : ∃ d', d = d' + 2 := ⟨d - 2, by omega⟩
  obtain ⟨h1, hk⟩ := G_ok hk
  have h1 : p.2 < big256 := Nat.blt_eq.mp h1
  refine ⟨_, ?_, hk⟩
  have q1 := Q.isr (mt := mt) (d := d') hw hc h (t := Int.ofNat p.1) (b := Int.ofNat p.2) (Q.mid_big (mid_of h1))
  refine q1.trans ?_
  show R.ok (PyData.bool (decide ((1 : Int) ≤ (p.2 : Int)) && decide (Nat.gcd p.1 p.2 = 1))) = R.ok (PyData.bool (cB (Nat.ble 1 p.2) (Nat.beq (Nat.gcd p.1 p.2) 1) false))
  congr 2
  rw [cB_and, Bool.eq_iff_iff]
  simp only [Bool.and_eq_true, decide_eq_true_iff, Nat.ble_eq, Nat.beq_eq]
  omega
/-! sums -/
theorem sum_go {d0 a : Nat} {α : Type} {ea : α → PyData} {add : α → α → C α} (kn : Kn ea) (ha : Sp2 (callT T (runs T bs mt d0)) a ea ea ea add) (L : PyData) {k : α → Bool} :
    ∀ (xs : List α) (p : α) (s : Sl), (s = .un ∨ ∃ x, s = .sh x) → List.rec (motive := fun _ => α → (α → Bool) → Bool) (fun p k => k p) (fun q _ ih p k => add p q fun r => ih r k) xs p k = true →
    ∃ (q : α) (s' : Sl), forGo (.one 2) (exec (callT T (runs T bs mt d0)) mt (Q.sumB a)) (xs.map ea) [.sh L, .sh (ea p), s] = .ok (.next [.sh L, .sh (ea q), s']) ∧ k q = true
  | [], p, s, _, h => ⟨p, s, rfl, h⟩
  | x :: xs, p, s, hs, h => by
    obtain ⟨q, e1, h⟩ := ha p x _ h
    obtain ⟨q', s', e2, h⟩ := sum_go kn ha L xs q (.sh (ea x)) (.inr ⟨_, rfl⟩) h
    refine ⟨q', s', ?_, h⟩
    rw [List.map_cons]
    unfold forGo
    simp only [bindT, List.set, Q.sumB, exec, hideAt, ev, List.getElem?_cons_succ, List.getElem?_cons_zero, Sl.val, R.bind, consD, unT, e1, give]
    exact e2
theorem at_sum {α : Type} {ea : α → PyData} {add : α → α → C α} {e0 : IE} {a rr : Nat} {z : α} (kn : Kn ea) (hz : ∀ call ρ, ev call e0 ρ = .ok (ea z)) (ha : At2 T bs mt rr a ea ea ea add) (h : Q.Has T bs j 3 (Q.sumIR e0 a) 1 []) {wrap : List α → PyData} (hw : ∀ xs, seqOf (wrap xs) = .ok (xs.map ea)) :
    At1 T bs mt (rr + 1) j wrap ea (fun xs k => List.rec (motive := fun _ => α → (α → Bool) → Bool) (fun p k => k p) (fun q _ ih p k => add p q fun r => ih r k) xs z k) := fun d hd xs k hk => by
  obtain ⟨d', rfl⟩ : ∃ d', d = d' + 1 := ⟨d - 1, by omega⟩
  obtain ⟨q, s', e, hk⟩ := sum_go kn (ha d' (by omega)) (wrap xs) xs z .un (.inl rfl) hk
  refine ⟨q, ?_, hk⟩
  rw [Q.call_eq h]
  have e1 : DL.envOf 3 ([wrap xs] ++ List.drop (([] : List PyData).length - (1 - [wrap xs].length)) []) = [.sh (wrap xs), .un, .un] := rfl
  rw [e1]
  simp only [Q.sumIR, exec, hideAt, give, hz, R.bind, List.set, ev, List.getElem?_cons_zero, Sl.val, hw, forD]
  rw [e]
  simp [R.next, R.bind, exec, ev, Sl.val, fin]
end
end DL.TC
namespace DL.TC
open PySem PySem.Spec PyProof.Rows L2
section
variable {call : Nat → List PyData → R PyData} {α β γ δ ε ζ : Type} {ρ : Env} {a b c d e f : IE} {ea : α → PyData} {eb : β → PyData} {ec : γ → PyData} {ed : δ → PyData} {ee : ε → PyData} {ef : ζ → PyData} {ma : C α} {mb : C β} {mc : C γ} {md : C δ} {me : C ε} {mf : C ζ}
/-! kinds of data -/
def Isi (ea : α → PyData) (t : String) (b : Bool) : Prop := ∀ x, isiD (ea x) t = .ok b
theorem is_Nint : Isi eN "int" true := fun _ => Q.isi_int
theorem is_Nbool : Isi eN "bool" false := fun _ => Q.isi_bool
theorem is_Iint : Isi eI "int" true := fun _ => Q.isi_int
theorem is_Ibool : Isi eI "bool" false := fun _ => Q.isi_bool
theorem is_T : Isi (eT ea) "tuple" true := fun _ => Q.isi_tup
theorem is_P : Isi (eP ea eb) "tuple" true := fun _ => Q.isi_tup
theorem is_P3 : Isi (eP3 ea eb ec) "tuple" true := fun _ => Q.isi_tup
theorem E_isi {t : String} {r : Bool} (hi : Isi ea t r) (h : OkE call ρ a ea ma) : OkE call ρ (.isi a t) eB (fun k => ma fun _ => k r) := fun k hk => by
  obtain ⟨x, e1, hk⟩ := h _ hk
  exact ⟨r, by simp only [ev, e1, R.bind, hi x, eB], hk⟩
noncomputable section
def negI (i : Int) : Int := Int.neg i
end
theorem E_negI {m : C Int} (h : OkE call ρ a eI m) : OkE call ρ (.neg a) eI (fun k => m fun i => k (negI i)) := fun k hk => by
  obtain ⟨x, e1, hk⟩ := h _ hk
  exact ⟨_, by simp only [ev, e1, R.bind, eI, negD]; rfl, hk⟩
def Sp5 (call : Nat → List PyData → R PyData) (j : Nat) (ea : α → PyData) (eb : β → PyData) (ec : γ → PyData) (ed : δ → PyData) (ee : ε → PyData) (er : ζ → PyData) (f : α → β → γ → δ → ε → C ζ) : Prop := ∀ x y z w u k, f x y z w u k = true → ∃ r, call j [ea x, eb y, ec z, ed w, ee u] = .ok (er r) ∧ k r = true
theorem E_call5 {j : Nat} {g : α → β → γ → δ → ε → C ζ} (hf : Sp5 call j ea eb ec ed ee ef g) (h1 : OkE call ρ a ea ma) (h2 : OkE call ρ b eb mb) (h3 : OkE call ρ c ec mc) (h4 : OkE call ρ d ed md) (h5 : OkE call ρ e ee me) :
    OkE call ρ (.call j (.econs a (.econs b (.econs c (.econs d (.econs e .enil)))))) ef (fun k => ma fun x => mb fun y => mc fun z => md fun w => me fun u => g x y z w u k) := fun k hk => by
  obtain ⟨x, e1, hk⟩ := h1 _ hk
  obtain ⟨y, e2, hk⟩ := h2 _ hk
  obtain ⟨z, e3, hk⟩ := h3 _ hk
  obtain ⟨w, e4, hk⟩ := h4 _ hk
  obtain ⟨u, e5, hk⟩ := h5 _ hk
  obtain ⟨r, er, hk⟩ := hf _ _ _ _ _ _ hk
  exact ⟨r, by simp only [ev, e1, e2, e3, e4, e5, R.bind, consD, unT, er], hk⟩
/-- a list given up -/
theorem E_ownS {i : Nat} {p : Nat × List α} (h : look ρ i = some (eL ea (List.reverse (List.take p.1 p.2)))) : OkE call ρ (.var i) (eL ea) (V (outN p)) := fun k hk => by
  obtain ⟨x, e1, h2⟩ := E_var (call := call) h k (by
    unfold V
    have e : outN p = List.reverse (List.take p.1 p.2) := by unfold outN; rw [revN_eq, takeN_eq]
    rw [← e]; exact hk)
  exact ⟨x, e1, h2⟩
/-- arguments as data, for the quick reader -/
def OkA (call : Nat → List PyData → R PyData) (ρ : Env) (e : IE) (m : C (List PyData)) : Prop := ∀ k, m k = true → ∃ xs, ev call e ρ = .ok (.tuple xs) ∧ k xs = true
theorem A_nil : OkA call ρ .enil (V []) := fun k hk => ⟨[], by simp only [ev], hk⟩
theorem A_cons {m : C (List PyData)} (h1 : OkE call ρ a ea ma) (h2 : OkA call ρ b m) : OkA call ρ (.econs a b) (fun k => ma fun x => m fun xs => k (ea x :: xs)) := fun k hk => by
  obtain ⟨x, e1, hk⟩ := h1 _ hk
  obtain ⟨y, e2, hk⟩ := h2 _ hk
  exact ⟨_, by simp only [ev, e1, e2, R.bind, consD], hk⟩
theorem E_dynB {mt : Nat → Nat → Option Bool} {T : Tab} {bs : List (Nat × IS)} {tr : Tr} {c0 d0 dd j : Nat} {m : C (List PyData)} (ht : TrOk T bs mt c0 tr) (hd : d0 + c0 ≤ dd) (h : OkA (callT T (runs T bs mt dd)) ρ a m) : OkE (callT T (runs T bs mt dd)) ρ (.call j a) eB (fun k => m fun xs => dynB mt tr d0 j xs k) := fun k hk => by
  obtain ⟨xs, e1, hk⟩ := h _ hk
  obtain ⟨b, e2, hk⟩ := dynB_ok ht hk hd
  exact ⟨b, by simp only [ev, e1, R.bind, unT, e2], hk⟩
/-- any datum -/
theorem E_any_ {x : PyData} (h : ev call a ρ = .ok x) : OkE call ρ a eD (V x) := fun k hk => ⟨x, h, hk⟩
end
/-! ### a law's pieces -/
section
variable {T : Tab} {bs : List (Nat × IS)} {mt : Nat → Nat → Option Bool} {d i : Nat} {seg : IS} {ns : List Int} {ρ' : Env}
/-- what is told of the frame before a piece: of typed states S by E, the draws by their rests -/
def Bef {S : Type} (i : Nat) (E : S → List (Nat × Nat) → Env) (P : S → Prop) (ns : List Int) (ρ' : Env) : Prop := ρ'[i]? = some (.sh (.list (ns.map PyData.int))) ∧ ∃ s, P s ∧ ∀ rs : List (Nat × Nat), FkA (rs.map eQ) (ns.map PyData.int) → FkE (E s rs) ρ'
/-- the rests of drawn numbers -/
def restsOf (ms : List Nat) (ns : List Int) : List (Nat × Nat) := (ms.zip ns).map fun p => (p.1, (p.2 % (p.1 : Int)).toNat)
theorem fk_rests : ∀ {ms : List Nat} {ns : List Int}, ms.length = ns.length → (∀ m ∈ ms, 0 < m) → FkA ((restsOf ms ns).map eQ) (ns.map PyData.int)
  | [], [], _, _ => .nil
  | [], _ :: _, h, _ => by simp at h
  | _ :: _, [], h, _ => by simp at h
  | m :: ms, n :: ns, h, hm => by
    have m0 := hm m List.mem_cons_self
    show FkA (eQ (m, (n % (m : Int)).toNat) :: (restsOf ms ns).map eQ) (.int n :: ns.map PyData.int)
    refine .cons ?_ (fk_rests (by simpa using h) fun m' h' => hm m' (List.mem_cons_of_mem _ h'))
    unfold eQ rst
    simp only [Fk]
    refine .inr ⟨_, _, n, rfl, rfl, ?_⟩
    have h1 := Int.emod_nonneg n (show (m : Int) ≠ 0 by omega)
    show n % (m : Int) = ((n % (m : Int)).toNat : Int) % (m : Int)
    rw [Int.toNat_of_nonneg h1, Int.emod_emod_of_dvd _ (Int.dvd_refl _)]
noncomputable section
/-- at all rests by ms -/
def allQ (ms : List Nat) : (List (Nat × Nat) → Bool) → Bool := List.rec (motive := fun _ => (List (Nat × Nat) → Bool) → Bool) (fun f => f []) (fun m _ ih f => allU (fun r => ih fun n => f ((m, r) :: n)) m) ms
def allL {S : Type} (l : List S) (f : S → Bool) : Bool := List.rec (motive := fun _ => Bool) true (fun s _ ih => cB (f s) ih false) l
end
theorem allQ_of : ∀ {ms : List Nat} {f : List (Nat × Nat) → Bool}, allQ ms f = true → ∀ ns : List Int, ms.length = ns.length → (∀ m ∈ ms, 0 < m) → f (restsOf ms ns) = true
  | [], f, h, [], _, _ => h
  | [], f, h, _ :: _, hl, _ => by simp at hl
  | m :: ms, f, h, [], hl, _ => by simp at hl
  | m :: ms, f, h, b :: bs, hl, hm => by
    have h : allU (fun r => allQ ms fun n => f ((m, r) :: n)) m = true := h
    have m0 := hm m List.mem_cons_self
    have h1 := Int.emod_nonneg b (show (m : Int) ≠ 0 by omega)
    have h2 := Int.emod_lt_of_pos b (show (0 : Int) < (m : Int) by omega)
    have q := allU_of h (b % (m : Int)).toNat (by omega)
    exact allQ_of q bs (by simpa using hl) fun m' hm' => hm m' (List.mem_cons_of_mem _ hm')
theorem allL_of {S : Type} {f : S → Bool} : ∀ {l : List S}, allL l f = true → ∀ s ∈ l, f s = true
  | [], _, s, h => by cases h
  | t :: l, h, s, hs => by
    have h : cB (f t) (allL l f) false = true := h
    rcases cB_ok h with ⟨q, h⟩ | ⟨_, h⟩
    · rcases List.mem_cons.mp hs with e | e
      · subst e; exact q
      · exact allL_of h s e
    · cases h
/-- a piece that goes on: all states before it, at all rests by ms, lead to states after it -/
theorem pc_next {S S' : Type} {E : S → List (Nat × Nat) → Env} {E' : S' → List (Nat × Nat) → Env} {P : S → Prop} {P' : S' → Prop} {c : S → List (Nat × Nat) → (S' → Bool) → Bool} {p' : S → S' → Bool} {ms : List Nat}
    (hl : ms.length = ns.length) (hm : ms.all (fun m => decide (0 < m)) = true) (hp : ∀ s t, P s → p' s t = true → P' t) (hw : noWr i seg = true)
    (hE : ∀ s rs rs', E' s rs' = (E' s rs).set i (.sh (eL eQ rs')))
    (hj : ∀ s rs k, J (callT T (runs T bs mt d)) mt (E s rs) seg (c s rs k) (Nx (fun s' => E' s' rs) k) (fun _ => False)) (hc : ∀ s, P s → allQ ms (fun rs => c s rs (p' s)) = true) (b : Bef i E P ns ρ') :
    ∃ τ', exec (callT T (runs T bs mt d)) mt seg ρ' = .ok (.next τ') ∧ Bef i E' P' ns τ' := by
  obtain ⟨hn, s, hs, g⟩ := b
  have hm' : ∀ m ∈ ms, 0 < m := fun m h => by simpa using List.all_eq_true.mp hm m h
  have g1 := g _ (fk_rests hl hm')
  obtain ⟨x, e, q⟩ := hj s (restsOf ms ns) (p' s) (allQ_of (hc s hs) ns hl hm')
  have z := fk_exec (mt := mt) (monoC (T := T) (bs := bs) (mt := mt) d) seg _ _ g1
  rw [e] at z
  obtain ⟨x', e2, w⟩ := z
  have k := exec_keeps (call := callT T (runs T bs mt d)) (mt := mt) seg hw ρ' hn
  cases x with
  | ret _ => exact q.elim
  | next τ =>
    obtain ⟨τ', rfl, u⟩ := w
    obtain ⟨s', gs, hs'⟩ := q
    rw [e2] at k
    exact ⟨τ', e2, k, s', hp s s' hs hs', fun rs hrs => by
      rw [hE s' (restsOf ms ns) rs]
      exact (fkE_trans gs u).setL k ⟨_, rfl, .ofList hrs⟩⟩
/-- the last piece -/
theorem pc_yes {S : Type} {E : S → List (Nat × Nat) → Env} {P : S → Prop} {c : S → List (Nat × Nat) → Bool} {ms : List Nat} (hl : ms.length = ns.length) (hm : ms.all (fun m => decide (0 < m)) = true)
    (hj : ∀ s rs, J (callT T (runs T bs mt d)) mt (E s rs) seg (c s rs) (fun _ => False) (Rt eB fun b => b)) (hc : ∀ s, P s → allQ ms (fun rs => c s rs) = true) (b : Bef i E P ns ρ') :
    exec (callT T (runs T bs mt d)) mt seg ρ' = .ok (.ret (.bool true)) := by
  obtain ⟨hn, s, hs, g⟩ := b
  have hm' : ∀ m ∈ ms, 0 < m := fun m h => by simpa using List.all_eq_true.mp hm m h
  have g1 := g _ (fk_rests hl hm')
  obtain ⟨x, e, q⟩ := hj s (restsOf ms ns) (allQ_of (hc s hs) ns hl hm')
  have z := fk_exec (mt := mt) (monoC (T := T) (bs := bs) (mt := mt) d) seg _ _ g1
  rw [e] at z
  obtain ⟨x', e2, w⟩ := z
  cases x with
  | next τ => exact q.elim
  | ret r =>
    obtain ⟨r', rfl, u⟩ := w
    obtain ⟨b, rfl, hb⟩ := q
    have := u.bool
    subst this
    have hb : b = true := hb
    rw [e2, hb]
end
/-! ### whole numbers, fractions of one number -/
noncomputable section
def rat1 (x : Nat) : C (Nat × Nat) := fun k => k (x, 1)
def who1 (_ : Nat) : C Bool := fun k => k true
def who1I (_ : Int) : C Bool := fun k => k true
def who2 (x l : Nat) : C Bool := fun k => k (Nat.ble l x)
def comC (a b : Nat) : C Nat := fun k => G (Nat.blt b big256) (k (Nat.gcd a b))
end
section
variable {T : Tab} {bs : List (Nat × IS)} {mt : Nat → Nat → Option Bool} {r w c e : Nat}
theorem at_whole (h : Q.Has T bs w 2 Q.wholeIR 2 [.none]) : At1 T bs mt 1 w eN eB fun _ k => k true := fun d hd x k hk => by
  obtain ⟨d', rfl⟩ : ∃ d', d = d' + 1 := ⟨d - 1, by omega⟩
  exact ⟨true, Q.whole h, hk⟩
theorem at_wholeI (h : Q.Has T bs w 2 Q.wholeIR 2 [.none]) : At1 T bs mt 1 w eI eB fun _ k => k true := fun d hd x k hk => by
  obtain ⟨d', rfl⟩ : ∃ d', d = d' + 1 := ⟨d - 1, by omega⟩
  exact ⟨true, Q.whole h, hk⟩
theorem at_whole2 (h : Q.Has T bs w 2 Q.wholeIR 2 [.none]) : At2 T bs mt 1 w eN eN eB fun x l k => k (Nat.ble l x) := fun d hd x l k hk => by
  obtain ⟨d', rfl⟩ : ∃ d', d = d' + 1 := ⟨d - 1, by omega⟩
  refine ⟨_, (Q.whole2 h).trans ?_, hk⟩
  show R.ok (PyData.bool (decide ((l : Int) ≤ (x : Int)))) = R.ok (PyData.bool (Nat.ble l x))
  congr 2
  rw [Bool.eq_iff_iff, Nat.ble_eq, decide_eq_true_iff]
  omega
theorem at_common (h : Q.Has T bs c 2 Q.commonIR 2 []) : At2 T bs mt 1 c eN eN eN comC := fun d hd x y k hk => by
  obtain ⟨d', rfl⟩ : ∃ d', d = d' + 1 := ⟨d - 1, by omega⟩
  obtain ⟨h1, hk⟩ := G_ok hk
  have h1 : y < big256 := Nat.blt_eq.mp h1
  exact ⟨_, Q.common_ h (Q.mid_big (mid_of h1) : (Int.ofNat y).natAbs < Q.big9), hk⟩
theorem pad1 {B : IS} {n : Nat} (h : Q.Has T bs r n B 2 [.int 1]) (run : Nat → List PyData → R PyData) (x : PyData) : callT T run r [x] = callT T run r [x, .int 1] := by
  obtain ⟨g, h1, h2, h3⟩ := h.t
  unfold callT
  rw [h1]
  unfold padOf
  dsimp only
  rw [h2, h3]
  rfl
theorem at_ratio1 (hr : Q.LowAt T bs mt r) {B : IS} {n : Nat} (h : Q.Has T bs r n B 2 [.int 1]) : At1 T bs mt 2 r eN eF fun x k => k (x, 1) := fun d hd x k hk => by
  refine ⟨_, ?_, hk⟩
  rw [pad1 h]
  have q := low_at (t := Int.ofNat x) (b := 1) hr hd (by decide) (by decide)
  refine q.trans ?_
  have g1 : Nat.gcd x 1 = 1 := Nat.gcd_one_right x
  show R.ok (PyData.tuple [.int ((x : Int) / ((Nat.gcd x 1 : Nat) : Int)), .int ((1 : Int) / ((Nat.gcd x 1 : Nat) : Int))]) = R.ok (PyData.tuple [.int (x : Int), .int 1])
  rw [g1]
  simp
theorem J_Q {call : Nat → List PyData → R PyData} {ρ : Env} {st : IS} {x : Bool} {N : Env → Prop} {Q Q' : PyData → Prop} (hq : ∀ d, Q d → Q' d) (h : J call mt ρ st x N Q) : J call mt ρ st x N Q' := fun hc => by
  obtain ⟨y, e1, w⟩ := h hc
  refine ⟨y, e1, ?_⟩
  cases y with
  | next τ => exact w
  | ret d => exact hq d w
end
/-! ### loops whose frame is of one of two kinds -/
def Nx2 {S : Type} (E1 E2 : S → Env) (j : S → Bool) : Env → Prop := fun ρ => ∃ s, (FkE (E1 s) ρ ∨ FkE (E2 s) ρ) ∧ j s = true
theorem mono_Nx2 {S : Type} {E1 E2 : S → Env} {j : S → Bool} : MonoN (Nx2 E1 E2 j) := fun ρ ρ' h ⟨s, g, e⟩ => ⟨s, g.imp (fun g => fkE_trans g h) (fun g => fkE_trans g h), e⟩
section
variable {call : Nat → List PyData → R PyData} {mt : Nat → Nat → Option Bool} {S X : Type} {ρ : Env} {k body : IS} {N : Env → Prop} {Q : PyData → Prop}
theorem forC_ok2 (hC : MonoC call) (hN : MonoN N) (hQ : CloQ Q) {ex : X → PyData} {E1 E2 : S → Env} {Eb1 Eb2 : X → S → Env} {t : Tg} {cb : X → S → (S → Bool) → Bool} {ck : S → Bool} (hb1 : ∀ x s, bindT t (ex x) (E1 s) = some (Eb1 x s)) (hb2 : ∀ x s, bindT t (ex x) (E2 s) = some (Eb2 x s))
    (h1 : ∀ x s j, J call mt (Eb1 x s) body (cb x s j) (Nx2 E1 E2 j) Q) (h2 : ∀ x s j, J call mt (Eb2 x s) body (cb x s j) (Nx2 E1 E2 j) Q) (hk1 : ∀ s, J call mt (E1 s) k (ck s) N Q) (hk2 : ∀ s, J call mt (E2 s) k (ck s) N Q) :
    ∀ (xs : List X) (s : S) (σ : Env), (FkE (E1 s) σ ∨ FkE (E2 s) σ) → forC cb xs s ck = true → ∃ y, R.next (forGo t (exec call mt body) (xs.map ex) σ) (exec call mt k) = .ok y ∧ Post N Q y
  | [], s, σ, g, h => by
    rcases g with g | g
    · obtain ⟨y, e1, w⟩ := J_le hC hN hQ g (hk1 s) h
      exact ⟨y, e1, w⟩
    · obtain ⟨y, e1, w⟩ := J_le hC hN hQ g (hk2 s) h
      exact ⟨y, e1, w⟩
  | x :: xs, s, σ, g, h => by
    have h : cb x s (fun s' => forC cb xs s' ck) = true := h
    have key : ∀ (E : S → Env) (Eb : X → S → Env), (∀ x s, bindT t (ex x) (E s) = some (Eb x s)) → (∀ x s j, J call mt (Eb x s) body (cb x s j) (Nx2 E1 E2 j) Q) → FkE (E s) σ → ∃ y, R.next (forGo t (exec call mt body) ((x :: xs).map ex) σ) (exec call mt k) = .ok y ∧ Post N Q y := fun E Eb hb hbody g => by
      rcases g.bind (t := t) (Fk.refl (ex x)) with z | ⟨τ, τ', e1, e2, g2⟩
      · rw [hb x s] at z; cases z
      · rw [hb x s] at e1
        cases e1
        obtain ⟨y, e3, w⟩ := J_le hC mono_Nx2 hQ g2 (hbody x s _) h
        rw [List.map_cons]
        unfold forGo
        rw [e2]
        dsimp only
        rw [e3]
        cases y with
        | ret d => exact ⟨.ret d, rfl, w⟩
        | next τ1 =>
          obtain ⟨s', g3, hs⟩ := w
          exact forC_ok2 hC hN hQ hb1 hb2 h1 h2 hk1 hk2 xs s' τ1 g3 hs
    rcases g with g | g
    · exact key E1 Eb1 hb1 h1 g
    · exact key E2 Eb2 hb2 h2 g
theorem J_for2 (hC : MonoC call) (hN : MonoN N) (hQ : CloQ Q) {ex : X → PyData} {mx : C (List X)} {it : IE} {fz : List Nat} {E1 E2 : S → Env} {Eb1 Eb2 : X → S → Env} {t : Tg} {cb : X → S → (S → Bool) → Bool} {ck : S → Bool} {s0 : S} (hi : OkE call (hideAt fz 0 ρ) it (eL ex) mx) (h0 : FkE (E1 s0) (give fz ρ))
    (hb1 : ∀ x s, bindT t (ex x) (E1 s) = some (Eb1 x s)) (hb2 : ∀ x s, bindT t (ex x) (E2 s) = some (Eb2 x s)) (h1 : ∀ x s j, J call mt (Eb1 x s) body (cb x s j) (Nx2 E1 E2 j) Q) (h2 : ∀ x s j, J call mt (Eb2 x s) body (cb x s j) (Nx2 E1 E2 j) Q) (hk1 : ∀ s, J call mt (E1 s) k (ck s) N Q) (hk2 : ∀ s, J call mt (E2 s) k (ck s) N Q) :
    J call mt ρ (.for_ t fz it body k) (mx fun xs => forC cb xs s0 ck) N Q := fun hc => by
  obtain ⟨xs, e1, h⟩ := hi _ hc
  obtain ⟨y, e2, w⟩ := forC_ok2 hC hN hQ hb1 hb2 h1 h2 hk1 hk2 xs s0 _ (.inl h0) h
  exact ⟨y, by simp only [exec, e1, R.bind, eL, forD]; exact e2, w⟩
end
section
variable {call : Nat → List PyData → R PyData} {α : Type} {ρ : Env} {e : IE} {ea : α → PyData} {m m' : C α}
theorem E_conv (h : OkE call ρ e ea m) (q : m = m') : OkE call ρ e ea m' := q ▸ h
end
/-! ### lists of states -/
section
variable {α β : Type}
theorem eqPr_ok {f : α → α → Bool} {g : β → β → Bool} (hf : ∀ a b, f a b = true → a = b) (hg : ∀ a b, g a b = true → a = b) (p q : α × β) (h : eqPr f g p q = true) : p = q := by
  rcases cB_ok h with ⟨h1, h2⟩ | ⟨_, h⟩
  · exact Prod.ext (hf _ _ h1) (hg _ _ h2)
  · cases h
theorem eqLs_ok {f : α → α → Bool} (hf : ∀ a b, f a b = true → a = b) : ∀ xs ys : List α, eqLs f xs ys = true → xs = ys
  | [], [], _ => rfl
  | [], _ :: _, h => by cases h
  | _ :: _, [], h => by cases h
  | x :: xs, y :: ys, h => by
    have h : cB (f x y) (eqLs f xs ys) false = true := h
    rcases cB_ok h with ⟨h1, h2⟩ | ⟨_, h⟩
    · rw [hf _ _ h1, eqLs_ok hf xs ys h2]
    · cases h
theorem beqN_ok (a b : Nat) (h : Nat.beq a b = true) : a = b := Nat.eq_of_beq_eq_true h
noncomputable section
def memL (f : α → α → Bool) (l : List α) (x : α) : Bool := List.rec (motive := fun _ => Bool) false (fun y _ r => cB (f y x) true r) l
end
theorem memL_ok {f : α → α → Bool} (hf : ∀ a b, f a b = true → a = b) {x : α} : ∀ {l : List α}, memL f l x = true → x ∈ l
  | [], h => by cases h
  | y :: l, h => by
    have h : cB (f y x) true (memL f l x) = true := h
    rcases cB_ok h with ⟨h1, _⟩ | ⟨_, h⟩
    · rw [hf _ _ h1]; exact List.mem_cons_self
    · exact List.mem_cons_of_mem _ (memL_ok hf h)
theorem allL_app {f : α → Bool} : ∀ {a b : List α}, allL a f = true → allL b f = true → allL (a ++ b) f = true
  | [], b, _, h => h
  | x :: a, b, h, g => by
    have h : cB (f x) (allL a f) false = true := h
    rcases cB_ok h with ⟨h1, h2⟩ | ⟨_, h⟩
    · show cB (f x) (allL (a ++ b) f) false = true
      rw [h1]
      exact allL_app h2 g
    · cases h
end
/-! ### tuples of numbers, sorted -/
noncomputable section
def lexN (a : List Nat) : List Nat → Bool := List.rec (motive := fun _ => List Nat → Bool) (fun _ => true) (fun x _ ih b => List.rec (motive := fun _ => Bool) false (fun y t _ => cB (Nat.blt x y) true (cB (Nat.blt y x) false (ih t))) b) a
def insT (i : List Nat) (ks : List (List Nat)) : List (List Nat) := List.rec (motive := fun _ => List (List Nat)) [i] (fun j r ih => Bool.rec (motive := fun _ => List (List Nat)) (j :: ih) (i :: j :: r) (lexN i j)) ks
def sortT (ks : List (List Nat)) : List (List Nat) := List.rec (motive := fun _ => List (List Nat)) [] (fun i _ ih => insT i ih) ks
def smallT (xs : List Nat) : Bool := List.rec (motive := fun _ => Bool) true (fun x _ r => cB (Nat.blt x 1048576) r false) xs
def likeT (d : Nat) (xs : List (List Nat)) : Bool := List.rec (motive := fun _ => Bool) true (fun x _ r => cB (Nat.beq (lenN x) d) (cB (smallT x) r false) false) xs
def sortTC (xs : List (List Nat)) : C (List (List Nat)) := fun k => List.rec (motive := fun _ => Bool) (k []) (fun t _ _ => G (Nat.ble 1 (lenN t)) (G (Nat.blt (lenN xs) 64) (G (likeT (lenN t) xs) (k (sortT xs))))) xs
end
theorem lexN_map : ∀ a b : List Nat, lexN a b = lexZ (a.map Int.ofNat) (b.map Int.ofNat)
  | [], _ => by rw [List.map_nil]; unfold lexZ; rfl
  | x :: a, [] => rfl
  | x :: a, y :: b => by
    rw [List.map_cons, List.map_cons]
    unfold lexZ
    show cB (Nat.blt x y) true (cB (Nat.blt y x) false (lexN a b)) = _
    rw [lexN_map a b]
    cases q : Nat.blt x y with
    | true =>
      have := Nat.blt_eq.mp q
      rw [if_pos (show Int.ofNat x < Int.ofNat y by show (x : Int) < (y : Int); omega)]
      rfl
    | false =>
      have : ¬ x < y := fun z => by rw [Nat.blt_eq.mpr z] at q; cases q
      rw [if_neg (show ¬ Int.ofNat x < Int.ofNat y by show ¬ (x : Int) < (y : Int); omega)]
      cases q2 : Nat.blt y x with
      | true =>
        have := Nat.blt_eq.mp q2
        rw [if_pos (show Int.ofNat y < Int.ofNat x by show (y : Int) < (x : Int); omega)]
        rfl
      | false =>
        have : ¬ y < x := fun z => by rw [Nat.blt_eq.mpr z] at q2; cases q2
        rw [if_neg (show ¬ Int.ofNat y < Int.ofNat x by show ¬ (y : Int) < (x : Int); omega)]
        rfl
theorem insT_map (i : List Nat) : ∀ ks : List (List Nat), (insT i ks).map (List.map Int.ofNat) = insL (i.map Int.ofNat) (ks.map (List.map Int.ofNat))
  | [] => rfl
  | j :: r => by
    show List.map (List.map Int.ofNat) (Bool.rec (motive := fun _ => List (List Nat)) (j :: insT i r) (i :: j :: r) (lexN i j)) = _
    rw [List.map_cons]
    unfold insL
    rw [← lexN_map, ← insT_map i r]
    cases lexN i j <;> rfl
theorem sortT_map : ∀ ks : List (List Nat), (sortT ks).map (List.map Int.ofNat) = sortL (ks.map (List.map Int.ofNat))
  | [] => rfl
  | i :: r => by
    rw [List.map_cons]
    unfold sortL
    rw [← sortT_map r, ← insT_map]
    rfl
theorem smallT_ok : ∀ {xs : List Nat}, smallT xs = true → (xs.map Int.ofNat).all (fun n => decide (0 ≤ n) && decide (n < 1048576)) = true
  | [], _ => rfl
  | x :: xs, h => by
    have h : cB (Nat.blt x 1048576) (smallT xs) false = true := h
    rcases cB_ok h with ⟨q, h⟩ | ⟨_, h⟩
    · have := Nat.blt_eq.mp q
      rw [List.map_cons, List.all_cons, smallT_ok h, Bool.and_true, Bool.and_eq_true, decide_eq_true_eq, decide_eq_true_eq]
      show (0 : Int) ≤ (x : Int) ∧ (x : Int) < 1048576
      omega
    · cases h
theorem likeT_ok {d : Nat} : ∀ {xs : List (List Nat)}, likeT d xs = true → tupsOf d (xs.map (eT eN)) = some (xs.map (List.map Int.ofNat))
  | [], _ => rfl
  | x :: xs, h => by
    have h : cB (Nat.beq (lenN x) d) (cB (smallT x) (likeT d xs) false) false = true := h
    rcases cB_ok h with ⟨q, h⟩ | ⟨_, h⟩
    · rcases cB_ok h with ⟨q2, h⟩ | ⟨_, h⟩
      · have q := Nat.eq_of_beq_eq_true q
        rw [lenN_eq] at q
        rw [List.map_cons, List.map_cons]
        show tupsOf d (.tuple (x.map eN) :: xs.map (eT eN)) = _
        unfold tupsOf
        rw [ints_N, likeT_ok h]
        dsimp only
        rw [List.length_map, decide_eq_true q, smallT_ok q2]
        rfl
      · cases h
    · cases h
theorem bl_sortTT : Bl1 .sorted (eL (eT eN)) (eL (eT eN)) sortTC := fun xs k h => by
  cases xs with
  | nil => exact ⟨[], rfl, h⟩
  | cons t r =>
    have h : G (Nat.ble 1 (lenN t)) (G (Nat.blt (lenN (t :: r)) 64) (G (likeT (lenN t) (t :: r)) (k (sortT (t :: r))))) = true := h
    obtain ⟨h1, h⟩ := G_ok h
    obtain ⟨h2, h⟩ := G_ok h
    obtain ⟨h3, h⟩ := G_ok h
    have h1 := Nat.ble_eq.mp h1
    have h2 := Nat.blt_eq.mp h2
    have h3 := likeT_ok h3
    rw [lenN_eq] at h1 h2 h3
    refine ⟨_, ?_, h⟩
    show sortDL ((t :: r).map (eT eN)) = .ok (.list ((sortT (t :: r)).map (eT eN)))
    have e1 : intsOf ((t :: r).map (eT eN)) = none := rfl
    have e2 : (decide (1 ≤ (t.map eN).length) && decide (((t :: r).map (eT eN)).length < 64)) = true := by
      rw [List.length_map, List.length_map, decide_eq_true h1, decide_eq_true h2]
      rfl
    rw [← List.length_map (f := eN)] at h3
    have e3 : sortDL ((t :: r).map (eT eN)) = .ok (.list ((sortL ((t :: r).map (List.map Int.ofNat))).map fun ns => .tuple (ns.map PyData.int))) := by
      unfold sortDL
      rw [e1]
      show (match tupsOf (t.map eN).length ((t :: r).map (eT eN)) with
        | some nss => if decide (1 ≤ (t.map eN).length) && decide (((t :: r).map (eT eN)).length < 64) then R.ok (PyData.list ((sortL nss).map fun (ns : List Int) => PyData.tuple (ns.map PyData.int))) else .bad
        | none => .bad) = _
      rw [h3]
      dsimp only
      rw [if_pos e2]
    rw [e3]
    rw [← sortT_map, List.map_map]
    congr 2
    apply List.map_congr_left
    intro ns _
    simp only [Function.comp_apply, List.map_map]
    rfl
noncomputable section
def overZ (p q : Int × Nat) : C (Int × Nat) := fun k => Int.rec (motive := fun _ => Bool) (fun u => gd4 (absS p.1) p.2 q.2 u (k (lowZ (mulS p.1 q.2) (Nat.mul p.2 u)))) (fun _ => false) q.1
end
theorem at_overZ {T : Tab} {bs : List (Nat × IS)} {mt : Nat → Nat → Option Bool} {j r e : Nat} (hr : Q.LowAt T bs mt r) (h : Q.Has T bs j 2 (Q.overIR r e) 2 []) : At2 T bs mt 3 j eZ eZ eZ overZ := fun d hd p q k hk => by
  obtain ⟨d', rfl⟩ : ∃ d', d = d' + 1 := ⟨d - 1, by omega⟩
  obtain ⟨u, v⟩ := q
  cases u with
  | negSucc u => cases hk
  | ofNat u =>
    obtain ⟨hb, hu, ⟨l1, l2, l4, l3⟩, hk⟩ := gd4_ok (show gd4 _ _ _ _ _ = true from hk)
    refine ⟨_, ?_, hk⟩
    rw [lowZ_eq, mulS_eq]
    have q1 := Q.over_ (mt := mt) (d := d') (mid_ofI l1) (mid_of l2) (mid_of l3) (mid_of l4) (by show (u : Int) ≠ 0; omega) h
    exact q1.trans (low_at hr (by omega) (pos_mul hb hu) (Q.mid_mul (mid_of l2) (mid_of l3)))
/-! ### the draws themselves: any rest -/
/-- a list of drawn numbers, of which nothing is known -/
def eW (ds : List Int) (_ : Unit) : PyData := .list (ds.map PyData.int)
noncomputable section
/-- the x-th of l draws, its rest by y: all there are -/
def drawC (l x y : Nat) : C Nat := fun k => G (Nat.blt x l) (G (Nat.ble 1 y) (allU k y))
end
section
variable {call : Nat → List PyData → R PyData} {ρ : Env} {e m : IE} {me mm : C Nat} {ds : List Int} {i l : Nat}
theorem at_ints {x : Nat} (h : x < ds.length) : ∃ b : Int, atD (ds.map PyData.int) (Int.ofNat x) = .ok (.int b) := by
  refine ⟨ds[x], ?_⟩
  unfold atD
  dsimp only
  rw [List.getElem?_map, List.getElem?_eq_getElem h]
  rfl
theorem rest_of {b : Int} {y : Nat} (h : 1 ≤ y) : ∃ r : Nat, r < y ∧ binD .mod (.int b) (eN y) = .ok (eN r) := by
  have h1 := Int.emod_nonneg b (show (y : Int) ≠ 0 by omega)
  have h2 := Int.emod_lt_of_pos b (show (0 : Int) < (y : Int) by omega)
  refine ⟨(b % (y : Int)).toNat, by omega, ?_⟩
  show (if (0 : Int) < (y : Int) then R.ok (PyData.int (b % (y : Int))) else _) = R.ok (PyData.int (((b % (y : Int)).toNat : Nat) : Int))
  rw [if_pos (by omega), Int.toNat_of_nonneg h1]
theorem E_drawn (hv : look ρ i = some (eW ds ())) (hl : ds.length = l) (he : OkE call ρ e eN me) (hm : OkE call ρ m eN mm) :
    OkE call ρ (.bin .mod (.sub (.var i) e) m) eN (fun k => me fun x => mm fun y => drawC l x y k) := fun k hk => by
  obtain ⟨_, ev0, _⟩ := E_var (call := call) hv (fun _ => true) rfl
  obtain ⟨x, e1, hk⟩ := he _ hk
  obtain ⟨y, e2, hk⟩ := hm _ hk
  obtain ⟨h1, hk⟩ := G_ok hk
  obtain ⟨h2, hk⟩ := G_ok hk
  obtain ⟨b, e3⟩ := at_ints (ds := ds) (x := x) (by rw [hl]; exact Nat.blt_eq.mp h1)
  obtain ⟨r, hr, e4⟩ := rest_of (b := b) (Nat.ble_eq.mp h2)
  refine ⟨r, ?_, allU_of hk r hr⟩
  have e5 : subD (eW ds ()) (eN x) = .ok (.int b) := e3
  have ev0 : ev call (.var i) ρ = .ok (eW ds ()) := ev0
  simp only [ev] at ev0 ⊢
  rw [ev0]
  simp only [R.bind, e1, e5, e2, e4]
end
section
variable {T : Tab} {bs : List (Nat × IS)} {mt : Nat → Nat → Option Bool} {d : Nat} {seg : IS} {ρ' : Env}
/-- what is told of the frame before a piece -/
def BefW {S : Type} (E : S → Env) (P : S → Prop) (ρ' : Env) : Prop := ∃ s, P s ∧ FkE (E s) ρ'
theorem pw_next {S S' : Type} {E : S → Env} {E' : S' → Env} {P : S → Prop} {P' : S' → Prop} {c : S → (S' → Bool) → Bool} {p' : S → S' → Bool} (hp : ∀ s t, P s → p' s t = true → P' t)
    (hj : ∀ s k, J (callT T (runs T bs mt d)) mt (E s) seg (c s k) (Nx E' k) (fun _ => False)) (hc : ∀ s, P s → c s (p' s) = true) (b : BefW E P ρ') :
    ∃ τ', exec (callT T (runs T bs mt d)) mt seg ρ' = .ok (.next τ') ∧ BefW E' P' τ' := by
  obtain ⟨s, hs, g⟩ := b
  obtain ⟨x, e, q⟩ := hj s (p' s) (hc s hs)
  have z := fk_exec (mt := mt) (monoC (T := T) (bs := bs) (mt := mt) d) seg _ _ g
  rw [e] at z
  obtain ⟨x', e2, w⟩ := z
  cases x with
  | ret _ => exact q.elim
  | next τ =>
    obtain ⟨τ', rfl, u⟩ := w
    obtain ⟨s', gs, hs'⟩ := q
    exact ⟨τ', e2, s', hp s s' hs hs', fkE_trans gs u⟩
theorem pw_yes {S : Type} {E : S → Env} {P : S → Prop} {c : S → Bool} (hj : ∀ s, J (callT T (runs T bs mt d)) mt (E s) seg (c s) (fun _ => False) (Rt eB fun b => b)) (hc : ∀ s, P s → c s = true) (b : BefW E P ρ') :
    exec (callT T (runs T bs mt d)) mt seg ρ' = .ok (.ret (.bool true)) := by
  obtain ⟨s, hs, g⟩ := b
  obtain ⟨x, e, q⟩ := hj s (hc s hs)
  have z := fk_exec (mt := mt) (monoC (T := T) (bs := bs) (mt := mt) d) seg _ _ g
  rw [e] at z
  obtain ⟨x', e2, w⟩ := z
  cases x with
  | next τ => exact q.elim
  | ret r =>
    obtain ⟨r', rfl, u⟩ := w
    obtain ⟨b, rfl, hb⟩ := q
    have := u.bool
    subst this
    have hb : b = true := hb
    rw [e2, hb]
end
theorem ag_addI : ∀ (x y : Int) (k : Int → Bool), addI x y k = true → ∃ z, augOp .add (id x) (id y) = id z ∧ k z = true := fun x y k h => ⟨_, rfl, h⟩
end DL.TC
set_option maxHeartbeats 0
namespace K20
open PySem PySem.Spec PyProof.Rows L2 DL
abbrev fuel : Nat := 100000
def top (i : Nat) : Stmt := PySem.Challenge.pw_chanceworks_k20_whole_ever_born.main.body.getD i (.Pass ⟨0, 0, 0, 0⟩)
/-- is_whole -/
def b0 : IS :=
  .ret (.and (.isi (.var 0) "int") (.and (.not (.isi (.var 0) "bool")) (.one (.or (.cmp .is_ (.var 1) (.non)) (.one (.cmp .ge (.var 0) (.var 1)))))))
abbrev n0 : List Str := ["value", "low"]
/-- common -/
def b1 : IS :=
  .while_ fuel (.cmp .gt (.var 1) (.int 0))
    (.par (some []) [0, 1] (.econs (.var 1) (.econs (.bin .mod (.var 0) (.var 1)) (.enil)))
    (.done))
  (.ret (.var 0))
abbrev n1 : List Str := ["first", "second"]
/-- ratio -/
def b2 : IS :=
  .ite (.or (.not (.call 0 (.econs (.var 0) (.enil)))) (.or (.not (.call 0 (.econs (.var 1) (.enil)))) (.one (.cmp .eq (.var 1) (.int 0)))))
    (.raise 1)
    (.done)
  (.ite (.cmp .lt (.var 1) (.int 0))
    (.par (some []) [0, 1] (.econs (.neg (.var 0)) (.econs (.neg (.var 1)) (.enil)))
    (.done))
    (.done)
  (.set (.z []) 2 (.call 1 (.econs (.blt .abs (.econs (.var 0) (.enil))) (.econs (.var 1) (.enil))))
  (.ret (.tup (.econs (.bin .fdiv (.var 0) (.var 2)) (.econs (.bin .fdiv (.var 1) (.var 2)) (.enil)))))))
abbrev n2 : List Str := ["top", "bottom", "part"]
/-- is_ratio -/
def b3 : IS :=
  .ite (.or (.not (.isi (.var 0) "tuple")) (.or (.cmp .ne (.blt .len (.econs (.var 0) (.enil))) (.int 2)) (.or (.not (.call 0 (.econs (.sub (.var 0) (.int 0)) (.enil)))) (.one (.not (.call 0 (.econs (.sub (.var 0) (.int 1)) (.econs (.int 1) (.enil)))))))))
    (.ret (.bl false))
    (.done)
  (.ret (.cmp .eq (.call 1 (.econs (.blt .abs (.econs (.sub (.var 0) (.int 0)) (.enil))) (.econs (.sub (.var 0) (.int 1)) (.enil)))) (.int 1)))
abbrev n3 : List Str := ["value"]
/-- add -/
def b4 : IS :=
  .ret (.call 2 (.econs (.bin .add (.bin .mul (.sub (.var 0) (.int 0)) (.sub (.var 1) (.int 1))) (.bin .mul (.sub (.var 1) (.int 0)) (.sub (.var 0) (.int 1)))) (.econs (.bin .mul (.sub (.var 0) (.int 1)) (.sub (.var 1) (.int 1))) (.enil))))
abbrev n4 : List Str := ["first", "second"]
/-- less -/
def b5 : IS :=
  .ret (.call 2 (.econs (.bin .sub (.bin .mul (.sub (.var 0) (.int 0)) (.sub (.var 1) (.int 1))) (.bin .mul (.sub (.var 1) (.int 0)) (.sub (.var 0) (.int 1)))) (.econs (.bin .mul (.sub (.var 0) (.int 1)) (.sub (.var 1) (.int 1))) (.enil))))
abbrev n5 : List Str := ["first", "second"]
/-- times -/
def b6 : IS :=
  .ret (.call 2 (.econs (.bin .mul (.sub (.var 0) (.int 0)) (.sub (.var 1) (.int 0))) (.econs (.bin .mul (.sub (.var 0) (.int 1)) (.sub (.var 1) (.int 1))) (.enil))))
abbrev n6 : List Str := ["first", "second"]
/-- over -/
def b7 : IS :=
  .ite (.cmp .eq (.sub (.var 1) (.int 0)) (.int 0))
    (.raise 1)
    (.done)
  (.ret (.call 2 (.econs (.bin .mul (.sub (.var 0) (.int 0)) (.sub (.var 1) (.int 1))) (.econs (.bin .mul (.sub (.var 0) (.int 1)) (.sub (.var 1) (.int 0))) (.enil)))))
abbrev n7 : List Str := ["first", "second"]
/-- total -/
def b8 : IS :=
  .set (.z []) 1 (.glob 0 (.tuple [.int 0, .int 1]))
  (.for_ (.one 2) [] (.iseq (.var 0))
    (.set (.z []) 1 (.call 4 (.econs (.var 1) (.econs (.var 2) (.enil))))
    (.done))
  (.ret (.var 1)))
abbrev n8 : List Str := ["values", "found", "value"]
/-- is_under -/
def b9 : IS :=
  .ite (.or (.not (.call 3 (.econs (.var 0) (.enil)))) (.one (.not (.call 3 (.econs (.var 1) (.enil))))))
    (.ret (.bl false))
    (.done)
  (.ret (.cmp .lt (.bin .mul (.sub (.var 0) (.int 0)) (.sub (.var 1) (.int 1))) (.bin .mul (.sub (.var 1) (.int 0)) (.sub (.var 0) (.int 1)))))
abbrev n9 : List Str := ["first", "second"]
/-- is_row -/
def b10 : IS :=
  .ite (.or (.not (.isi (.var 0) "tuple")) (.or (.not (.chain .le .le (.int 1) (.blt .len (.econs (.var 0) (.enil))) (.glob 2 (.int 12)))) (.one (.not (.gen true [1] [("one", 1)] (.one 1) (.iseq (.var 0)) (.call 3 (.econs (.var 1) (.enil))))))))
    (.ret (.bl false))
    (.done)
  (.ret (.and (.gen true [1] [("one", 1)] (.one 1) (.iseq (.var 0)) (.cmp .ge (.sub (.var 1) (.int 0)) (.int 0))) (.one (.cmp .eq (.call 8 (.econs (.var 0) (.enil))) (.glob 1 (.tuple [.int 1, .int 1]))))))
abbrev n10 : List Str := ["row", "one"]
/-- check_chances -/
def b11 : IS :=
  .ite (.not (.call 10 (.econs (.var 0) (.enil))))
    (.raise 3)
    (.done)
  (.done)
abbrev n11 : List Str := ["row"]
/-- mean -/
def b12 : IS :=
  .expr (.call 11 (.econs (.var 0) (.enil)))
  (.ret (.call 8 (.econs (.lc [1, 2] [("k", 1), ("one", 2)] (.many [1, 2]) (.ienum (.var 0)) (.bl true) (.call 6 (.econs (.var 2) (.econs (.call 2 (.econs (.var 1) (.enil))) (.enil))))) (.enil))))
abbrev n12 : List Str := ["row", "k", "one"]
/-- worth -/
def b13 : IS :=
  .expr (.call 11 (.econs (.var 0) (.enil)))
  (.set (.z []) 2 (.glob 0 (.tuple [.int 0, .int 1]))
  (.for_ (.one 3) [] (.irev (.var 0))
    (.set (.z []) 2 (.call 4 (.econs (.call 6 (.econs (.var 2) (.econs (.var 1) (.enil)))) (.econs (.var 3) (.enil))))
    (.done))
  (.ret (.var 2))))
abbrev n13 : List Str := ["row", "value", "found", "one"]
/-- poly_times -/
def b14 : IS :=
  .set (.f) 7 (.bin .mul (.lst (.econs (.glob 0 (.tuple [.int 0, .int 1])) (.enil))) (.blt .min2 (.econs (.var 2) (.econs (.bin .sub (.bin .add (.blt .len (.econs (.var 0) (.enil))) (.blt .len (.econs (.var 1) (.enil)))) (.int 1)) (.enil)))))
  (.for_ (.many [4, 6]) [] (.ienum (.var 0))
    (.for_ (.many [3, 5]) [] (.ienum (.var 1))
      (.ite (.and (.cmp .lt (.bin .add (.var 4) (.var 3)) (.var 2)) (.and (.cmp .ne (.sub (.var 6) (.int 0)) (.int 0)) (.one (.cmp .ne (.sub (.var 5) (.int 0)) (.int 0)))))
        (.sto 7 (.bin .add (.var 4) (.var 3)) (.call 4 (.econs (.sub (.var 7) (.bin .add (.var 4) (.var 3))) (.econs (.call 6 (.econs (.var 6) (.econs (.var 5) (.enil)))) (.enil))))
        (.done))
        (.done)
      (.done))
    (.done))
  (.ret (.blt .tuple (.econs (.var 7) (.enil)))))
abbrev n14 : List Str := ["first", "second", "places", "j", "k", "other", "one", "found"]
/-- poly_power -/
def b15 : IS :=
  .set (.z []) 3 (.tup (.econs (.glob 1 (.tuple [.int 1, .int 1])) (.enil)))
  (.for_ (.one 4) [] (.ir1 (.var 1))
    (.set (.z []) 3 (.call 14 (.econs (.var 3) (.econs (.var 0) (.econs (.var 2) (.enil)))))
    (.done))
  (.ret (.var 3)))
abbrev n15 : List Str := ["row", "number", "places", "found", "step"]
/-- is_death_bound -/
def b16 : IS :=
  .expr (.call 11 (.econs (.var 0) (.enil)))
  (.ite (.or (.not (.call 3 (.econs (.var 1) (.enil)))) (.or (.cmp .lt (.sub (.var 1) (.int 0)) (.int 0)) (.one (.call 9 (.econs (.glob 1 (.tuple [.int 1, .int 1])) (.econs (.var 1) (.enil)))))))
    (.ret (.bl false))
    (.done)
  (.ret (.not (.call 9 (.econs (.var 1) (.econs (.call 13 (.econs (.var 0) (.econs (.var 1) (.enil)))) (.enil)))))))
abbrev n16 : List Str := ["row", "value"]
/-- born_chance -/
def b17 : IS :=
  .expr (.call 11 (.econs (.var 0) (.enil)))
  (.ite (.or (.not (.call 0 (.econs (.var 1) (.econs (.int 1) (.enil))))) (.one (.cmp .gt (.var 1) (.int 30))))
    (.raise 2)
    (.done)
  (.set (.z []) 2 (.call 15 (.econs (.var 0) (.econs (.var 1) (.econs (.var 1) (.enil)))))
  (.ret (.call 6 (.econs (.call 2 (.econs (.int 1) (.econs (.var 1) (.enil)))) (.econs (.ite (.cmp .ge (.blt .len (.econs (.var 2) (.enil))) (.var 1)) (.sub (.var 2) (.bin .sub (.var 1) (.int 1))) (.glob 0 (.tuple [.int 0, .int 1]))) (.enil)))))))
abbrev n17 : List Str := ["row", "many", "rows"]
/-- mean_born -/
def b18 : IS :=
  .expr (.call 11 (.econs (.var 0) (.enil)))
  (.set (.z []) 1 (.call 5 (.econs (.glob 1 (.tuple [.int 1, .int 1])) (.econs (.call 12 (.econs (.var 0) (.enil))) (.enil))))
  (.ite (.cmp .le (.sub (.var 1) (.int 0)) (.int 0))
    (.raise 2)
    (.done)
  (.ret (.call 7 (.econs (.glob 1 (.tuple [.int 1, .int 1])) (.econs (.var 1) (.enil)))))))
abbrev n18 : List Str := ["row", "lack"]
/-- family_words -/
def b19 : IS :=
  .ite (.or (.not (.call 0 (.econs (.var 0) (.econs (.int 1) (.enil))))) (.one (.cmp .gt (.var 0) (.int 7))))
    (.raise 2)
    (.done)
  (.set (.z []) 7 (.lst (.econs (.tup (.econs (.tup (.enil)) (.econs (.int 1) (.enil)))) (.enil)))
  (.for_ (.one 6) [] (.ir1 (.var 0))
    (.set (.z []) 5 (.lst (.enil))
    (.for_ (.many [3, 2]) [] (.iseq (.var 7))
      (.ite (.cmp .gt (.var 2) (.int 0))
        (.set (.z []) 5 (.bin .add (.var 5) (.lc [1] [("own", 1)] (.one 1) (.ir1 (.var 0)) (.bl true) (.tup (.econs (.bin .add (.var 3) (.tup (.econs (.var 1) (.enil)))) (.econs (.bin .add (.bin .sub (.var 2) (.int 1)) (.var 1)) (.enil))))))
        (.done))
        (.done)
      (.done))
    (.set (.z []) 7 (.lc [4] [("pair", 4)] (.one 4) (.iseq (.var 5)) (.cmp .le (.sub (.var 4) (.int 1)) (.bin .sub (.bin .sub (.var 0) (.var 6)) (.int 1))) (.var 4))
    (.done))))
  (.ret (.blt .tuple (.econs (.blt .sorted (.econs (.lc [3, 2] [("row", 3), ("left", 2)] (.many [3, 2]) (.iseq (.var 7)) (.cmp .eq (.var 2) (.int 0)) (.var 3)) (.enil))) (.enil))))))
abbrev n19 : List Str := ["many", "own", "left", "row", "pair", "later", "step", "rows"]
/-- word_chance -/
def b20 : IS :=
  .expr (.call 11 (.econs (.var 0) (.enil)))
  (.set (.z []) 3 (.glob 1 (.tuple [.int 1, .int 1]))
  (.for_ (.one 2) [] (.iseq (.var 1))
    (.set (.z []) 3 (.call 6 (.econs (.var 3) (.econs (.ite (.cmp .lt (.var 2) (.blt .len (.econs (.var 0) (.enil)))) (.sub (.var 0) (.var 2)) (.glob 0 (.tuple [.int 0, .int 1]))) (.enil))))
    (.done))
  (.ret (.var 3))))
abbrev n20 : List Str := ["row", "word", "own", "found"]
/-- is_family -/
def b21 : IS :=
  .ite (.or (.not (.isi (.var 0) "tuple")) (.or (.cmp .eq (.blt .len (.econs (.var 0) (.enil))) (.int 0)) (.one (.not (.gen true [3] [("one", 3)] (.one 3) (.iseq (.var 0)) (.call 0 (.econs (.var 3) (.econs (.int 0) (.enil)))))))))
    (.ret (.bl false))
    (.done)
  (.set (.z []) 1 (.int 1)
  (.for_ (.many [4, 2]) [] (.ienum (.var 0))
    (.ite (.cmp .le (.var 1) (.int 0))
      (.ret (.bl false))
      (.done)
    (.aug .add 1 (.bin .sub (.var 2) (.int 1))
    (.done)))
  (.ret (.cmp .eq (.var 1) (.int 0)))))
abbrev n21 : List Str := ["word", "left", "own", "one", "at"]
/-- whole_chance -/
def b22 : IS :=
  .ite (.or (.not (.call 0 (.econs (.var 1) (.econs (.int 1) (.enil))))) (.one (.cmp .gt (.var 1) (.int 20))))
    (.raise 2)
    (.done)
  (.ret (.call 8 (.econs (.lc [2] [("many", 2)] (.one 2) (.ir2 (.int 1) (.bin .add (.var 1) (.int 1))) (.bl true) (.call 17 (.econs (.var 0) (.econs (.var 2) (.enil))))) (.enil))))
abbrev n22 : List Str := ["row", "places", "many"]
/-- _law_cell -/
def b23 : IS :=
  .ite (.cmp .lt (.var 1) (.blt .len (.econs (.var 0) (.enil))))
    (.ret (.sub (.var 0) (.var 1)))
    (.done)
  (.ret (.int 0))
abbrev n23 : List Str := ["script", "k"]
/-- _law_draws -/
def b24 : IS :=
  .set (.f) 2 (.lst (.enil))
  (.set (.z []) 3 (.blt .int (.econs (.var 0) (.enil)))
  (.for_ (.one 4) [] (.ir1 (.var 1))
    (.set (.z []) 5 (.bin .mod (.blt .int (.econs (.bin .add (.bin .add (.bin .mul (.var 0) (.int 48271)) (.bin .mul (.var 4) (.int 69621))) (.int 1)) (.enil))) (.int 2147483647))
    (.ite (.cmp .ge (.var 0) (.bin .pow (.int 10) (.int 18)))
      (.app 2 (.bin .mod (.var 3) (.int 1009))
      (.set (.z []) 3 (.bin .fdiv (.var 3) (.int 1009))
      (.done)))
      (.app 2 (.bin .fdiv (.bin .mod (.blt .int (.econs (.bin .add (.bin .mul (.var 5) (.var 5)) (.bin .mul (.var 5) (.int 40692))) (.enil))) (.int 2147483399)) (.int 7))
      (.done))
    (.done)))
  (.ret (.var 2))))
abbrev n24 : List Str := ["cell", "count", "result", "rest", "k", "mixed"]
/-- _law_low -/
def b25 : IS :=
  .ite (.cmp .lt (.var 1) (.int 0))
    (.par (some []) [0, 1] (.econs (.bin .sub (.int 0) (.var 0)) (.econs (.bin .sub (.int 0) (.var 1)) (.enil)))
    (.done))
    (.done)
  (.par (some []) [2, 3] (.econs (.blt .abs (.econs (.var 0) (.enil))) (.econs (.var 1) (.enil)))
  (.while_ fuel (.cmp .gt (.var 3) (.int 0))
    (.par (some []) [2, 3] (.econs (.var 3) (.econs (.bin .mod (.var 2) (.var 3)) (.enil)))
    (.done))
  (.ret (.tup (.econs (.bin .fdiv (.var 0) (.var 2)) (.econs (.bin .fdiv (.var 1) (.var 2)) (.enil)))))))
abbrev n25 : List Str := ["top", "bottom", "a", "b"]
/-- _law_add -/
def b26 : IS :=
  .ret (.call 25 (.econs (.bin .add (.bin .mul (.sub (.var 0) (.int 0)) (.sub (.var 1) (.int 1))) (.bin .mul (.sub (.var 1) (.int 0)) (.sub (.var 0) (.int 1)))) (.econs (.bin .mul (.sub (.var 0) (.int 1)) (.sub (.var 1) (.int 1))) (.enil))))
abbrev n26 : List Str := ["one", "two"]
/-- _law_mul -/
def b27 : IS :=
  .ret (.call 25 (.econs (.bin .mul (.sub (.var 0) (.int 0)) (.sub (.var 1) (.int 0))) (.econs (.bin .mul (.sub (.var 0) (.int 1)) (.sub (.var 1) (.int 1))) (.enil))))
abbrev n27 : List Str := ["one", "two"]
/-- _law_less -/
def b28 : IS :=
  .ret (.call 25 (.econs (.bin .sub (.bin .mul (.sub (.var 0) (.int 0)) (.sub (.var 1) (.int 1))) (.bin .mul (.sub (.var 1) (.int 0)) (.sub (.var 0) (.int 1)))) (.econs (.bin .mul (.sub (.var 0) (.int 1)) (.sub (.var 1) (.int 1))) (.enil))))
abbrev n28 : List Str := ["one", "two"]
/-- _law_sum -/
def b29 : IS :=
  .set (.z []) 1 (.tup (.econs (.int 0) (.econs (.int 1) (.enil))))
  (.for_ (.one 2) [] (.iseq (.var 0))
    (.set (.z []) 1 (.call 26 (.econs (.var 1) (.econs (.var 2) (.enil))))
    (.done))
  (.ret (.var 1)))
abbrev n29 : List Str := ["row", "found", "one"]
/-- _law_under -/
def b30 : IS :=
  .ret (.cmp .lt (.bin .mul (.sub (.var 0) (.int 0)) (.sub (.var 1) (.int 1))) (.bin .mul (.sub (.var 1) (.int 0)) (.sub (.var 0) (.int 1))))
abbrev n30 : List Str := ["one", "two"]
/-- _law_row -/
def b31 : IS :=
  .set (.z []) 6 (.lc [3] [("k", 3)] (.one 3) (.ir1 (.var 2)) (.bl true) (.bin .mod (.sub (.var 0) (.bin .add (.var 1) (.var 3))) (.int 4)))
  (.set (.z []) 5 (.blt .sum (.econs (.var 6) (.enil)))
  (.ite (.cmp .eq (.var 5) (.int 0))
    (.ret (.bin .add (.tup (.econs (.tup (.econs (.int 1) (.econs (.int 1) (.enil)))) (.enil))) (.bin .mul (.tup (.econs (.tup (.econs (.int 0) (.econs (.int 1) (.enil)))) (.enil))) (.bin .sub (.var 2) (.int 1)))))
    (.done)
  (.ret (.blt .tuple (.econs (.lc [4] [("one", 4)] (.one 4) (.iseq (.var 6)) (.bl true) (.call 25 (.econs (.var 4) (.econs (.var 5) (.enil))))) (.enil))))))
abbrev n31 : List Str := ["n", "at", "many", "k", "one", "whole", "weights"]
/-- _law_sums -/
def b32 : IS :=
  .set (.f) 4 (.lc [3] [("k", 3)] (.one 3) (.ir1 (.bin .sub (.bin .add (.blt .len (.econs (.var 0) (.enil))) (.blt .len (.econs (.var 1) (.enil)))) (.int 1))) (.bl true) (.tup (.econs (.int 0) (.econs (.int 1) (.enil)))))
  (.for_ (.one 3) [] (.ir1 (.blt .len (.econs (.var 0) (.enil))))
    (.for_ (.one 2) [] (.ir1 (.blt .len (.econs (.var 1) (.enil))))
      (.sto 4 (.bin .add (.var 3) (.var 2)) (.call 26 (.econs (.sub (.var 4) (.bin .add (.var 3) (.var 2))) (.econs (.call 27 (.econs (.sub (.var 0) (.var 3)) (.econs (.sub (.var 1) (.var 2)) (.enil)))) (.enil))))
      (.done))
    (.done))
  (.ret (.var 4)))
abbrev n32 : List Str := ["row", "other", "j", "k", "found"]
/-- _law_refuses -/
def b33 : IS :=
  .try_ (.ite (.cmp .eq (.var 0) (.int 0)) (.expr (.call 17 (.econs (.var 1) (.econs (.var 2) (.enil)))) (.done)) (.expr (.call 18 (.econs (.var 1) (.enil))) (.done)) (.done)) (.ret 2 (.bl true) (.nil))
  (.ret (.bl false))
abbrev n33 : List Str := ["k", "row", "many"]
/-- law -/
def g0 : IS :=
  .set (.z []) 14 (.call 24 (.econs (.call 23 (.econs (.var 0) (.econs (.int 0) (.enil)))) (.econs (.int 30) (.enil))))
  (.done)
def g1 : IS :=
  .set (.z []) 2 (.call 31 (.econs (.var 14) (.econs (.int 1) (.econs (.bin .add (.bin .mod (.sub (.var 14) (.int 0)) (.int 4)) (.int 1)) (.enil)))))
  (.set (.z []) 15 (.bin .add (.bin .mod (.sub (.var 14) (.int 6)) (.int 6)) (.int 1))
  (.done))
def g2 : IS :=
  .set (.z []) 11 (.tup (.econs (.int 0) (.econs (.int 1) (.enil))))
  (.for_ (.one 5) [] (.ir2 (.int 1) (.bin .add (.var 15) (.int 1)))
    (.set (.z []) 12 (.call 19 (.econs (.var 5) (.enil)))
    (.set (.z []) 8 (.call 29 (.econs (.lc [3] [("word", 3)] (.one 3) (.iseq (.var 12)) (.bl true) (.call 20 (.econs (.var 2) (.econs (.var 3) (.enil))))) (.enil)))
    (.set (.z []) 1 (.lst (.econs (.tup (.econs (.int 1) (.econs (.int 1) (.enil)))) (.enil)))
    (.for_ (.one 4) [] (.ir1 (.var 5))
      (.set (.z []) 1 (.call 32 (.econs (.var 1) (.econs (.var 2) (.enil))))
      (.done))
    (.set (.z []) 13 (.call 27 (.econs (.call 25 (.econs (.int 1) (.econs (.var 5) (.enil)))) (.econs (.ite (.cmp .lt (.bin .sub (.var 5) (.int 1)) (.blt .len (.econs (.var 1) (.enil)))) (.sub (.var 1) (.bin .sub (.var 5) (.int 1))) (.tup (.econs (.int 0) (.econs (.int 1) (.enil))))) (.enil))))
    (.ite (.or (.cmp .ne (.var 8) (.var 13)) (.one (.cmp .ne (.call 17 (.econs (.var 2) (.econs (.var 5) (.enil)))) (.var 8))))
      (.ret (.bl false))
      (.done)
    (.set (.z []) 11 (.call 26 (.econs (.var 11) (.econs (.var 8) (.enil))))
    (.done))))))))
  (.ite (.or (.cmp .ne (.call 22 (.econs (.var 2) (.econs (.var 15) (.enil)))) (.var 11)) (.one (.call 30 (.econs (.tup (.econs (.int 1) (.econs (.int 1) (.enil)))) (.econs (.var 11) (.enil))))))
    (.ret (.bl false))
    (.done)
  (.set (.z []) 16 (.call 25 (.econs (.bin .mod (.sub (.var 14) (.int 7)) (.int 6)) (.econs (.int 5) (.enil))))
  (.ite (.and (.call 16 (.econs (.var 2) (.econs (.var 16) (.enil)))) (.one (.call 30 (.econs (.var 16) (.econs (.var 11) (.enil))))))
    (.ret (.bl false))
    (.done)
  (.done)))))
def g3 : IS :=
  .set (.z []) 17 (.call 28 (.econs (.tup (.econs (.int 1) (.econs (.int 1) (.enil)))) (.econs (.call 12 (.econs (.var 2) (.enil))) (.enil))))
  (.ite (.call 30 (.econs (.tup (.econs (.int 0) (.econs (.int 1) (.enil)))) (.econs (.var 17) (.enil))))
    (.ite (.or (.cmp .ne (.call 27 (.econs (.call 18 (.econs (.var 2) (.enil))) (.econs (.var 17) (.enil)))) (.tup (.econs (.int 1) (.econs (.int 1) (.enil))))) (.one (.cmp .ne (.call 18 (.econs (.var 2) (.enil))) (.call 26 (.econs (.tup (.econs (.int 1) (.econs (.int 1) (.enil)))) (.econs (.call 27 (.econs (.call 12 (.econs (.var 2) (.enil))) (.econs (.call 18 (.econs (.var 2) (.enil))) (.enil)))) (.enil)))))))
      (.ret (.bl false))
      (.done)
    (.done))
    (.ite (.not (.call 33 (.econs (.int 1) (.econs (.var 2) (.econs (.non) (.enil))))))
      (.ret (.bl false))
      (.done)
    (.done))
  (.done))
def g4 : IS :=
  .par2 true false 9 7 (.lst (.enil)) (.bin .sub (.var 15) (.int 1))
  (.for_ (.one 6) [] (.ir1 (.var 15))
    (.set (.z []) 10 (.ite (.cmp .lt (.var 6) (.bin .sub (.var 15) (.int 1))) (.bin .mod (.sub (.var 14) (.bin .add (.int 10) (.var 6))) (.bin .add (.var 7) (.int 1))) (.var 7))
    (.app 9 (.var 10)
    (.set (.z []) 7 (.bin .sub (.var 7) (.var 10))
    (.done))))
  (.set (.z [9]) 18 (.lc [6] [("k", 6)] (.one 6) (.ir1 (.var 15)) (.call 21 (.econs (.blt .tuple (.econs (.bin .add (.slice (.var 9) (.part (.var 6)) (.nopart)) (.slice (.var 9) (.nopart) (.part (.var 6)))) (.enil))) (.enil))) (.var 6))
  (.done)))
def g5 : IS :=
  .ret (.and (.cmp .eq (.blt .len (.econs (.var 18) (.enil))) (.int 1)) (.one (.call 33 (.econs (.int 0) (.econs (.var 2) (.econs (.sub (.tup (.econs (.int 0) (.econs (.int 31) (.econs (.non) (.econs (.bl true) (.enil)))))) (.bin .mod (.sub (.var 14) (.int 20)) (.int 4))) (.enil)))))))
def b34 : IS := g0.thn (g1.thn (g2.thn (g3.thn (g4.thn (g5)))))
abbrev n34 : List Str := ["script", "power", "row", "word", "step", "size", "k", "left", "one", "numbers", "own", "whole", "words", "two", "n", "many", "value", "lack", "good"]
abbrev fns : List FnI := [⟨"is_whole", ["value", "low"], [.none]⟩,
  ⟨"common", ["first", "second"], []⟩,
  ⟨"ratio", ["top", "bottom"], [.int 1]⟩,
  ⟨"is_ratio", ["value"], []⟩,
  ⟨"add", ["first", "second"], []⟩,
  ⟨"less", ["first", "second"], []⟩,
  ⟨"times", ["first", "second"], []⟩,
  ⟨"over", ["first", "second"], []⟩,
  ⟨"total", ["values"], []⟩,
  ⟨"is_under", ["first", "second"], []⟩,
  ⟨"is_row", ["row"], []⟩,
  ⟨"check_chances", ["row"], []⟩,
  ⟨"mean", ["row"], []⟩,
  ⟨"worth", ["row", "value"], []⟩,
  ⟨"poly_times", ["first", "second", "places"], []⟩,
  ⟨"poly_power", ["row", "number", "places"], []⟩,
  ⟨"is_death_bound", ["row", "value"], []⟩,
  ⟨"born_chance", ["row", "many"], []⟩,
  ⟨"mean_born", ["row"], []⟩,
  ⟨"family_words", ["many"], []⟩,
  ⟨"word_chance", ["row", "word"], []⟩,
  ⟨"is_family", ["word"], []⟩,
  ⟨"whole_chance", ["row", "places"], []⟩,
  ⟨"_law_cell", ["script", "k"], []⟩,
  ⟨"_law_draws", ["cell", "count"], []⟩,
  ⟨"_law_low", ["top", "bottom"], []⟩,
  ⟨"_law_add", ["one", "two"], []⟩,
  ⟨"_law_mul", ["one", "two"], []⟩,
  ⟨"_law_less", ["one", "two"], []⟩,
  ⟨"_law_sum", ["row"], []⟩,
  ⟨"_law_under", ["one", "two"], []⟩,
  ⟨"_law_row", ["n", "at", "many"], []⟩,
  ⟨"_law_sums", ["row", "other"], []⟩,
  ⟨"_law_refuses", ["k", "row", "many"], []⟩,
  ⟨"law", ["script"], []⟩]
abbrev T : Tab := ⟨fns, [("NOUGHT", .tuple [.int 0, .int 1]), ("ONE", .tuple [.int 1, .int 1]), ("MOST", .int 12)], ["ChanceError", "BadRatio", "BadNumber", "BadRow"], ["isinstance", "bool", "int", "abs", "len", "tuple", "all", "enumerate", "reversed", "min", "range", "sorted", "sum"], 1, true⟩
abbrev bs : List (Nat × IS) := [(2, b0), (2, b1), (3, b2), (1, b3), (2, b4), (2, b5), (2, b6), (2, b7), (3, b8), (2, b9), (2, b10), (1, b11), (3, b12), (4, b13), (8, b14), (5, b15), (2, b16), (3, b17), (2, b18), (8, b19), (4, b20), (5, b21), (3, b22), (2, b23), (6, b24), (4, b25), (2, b26), (2, b27), (2, b28), (3, b29), (2, b30), (7, b31), (5, b32), (3, b33), (19, b34)]
def mtab : List (List Bool) := [[true, false, false, false], [true, true, false, false], [true, false, true, false], [true, false, false, true]]
def mt (c d : Nat) : Option Bool := match mtab[c]? with
  | some r => r[d]?
  | none => none
abbrev run : Nat → List PyData → R PyData := runs T bs mt 14
theorem c0 : chkS { T with gn := 0, gb := true } n0 b0 (defScope (top 8)) (defBody (top 8)) = true := by kernel_rfl
theorem s0 : FnScope n0 ["value", "low"] (defScope (top 8)) := ⟨rfl, rfl, rfl, by decide +kernel, rfl, by decide +kernel, by decide +kernel⟩
theorem c1 : chkS { T with gn := 0, gb := true } n1 b1 (defScope (top 9)) (defBody (top 9)) = true := by kernel_rfl
theorem s1 : FnScope n1 ["first", "second"] (defScope (top 9)) := ⟨rfl, rfl, rfl, by decide +kernel, rfl, by decide +kernel, by decide +kernel⟩
theorem c2 : chkS { T with gn := 0, gb := true } n2 b2 (defScope (top 10)) (defBody (top 10)) = true := by kernel_rfl
theorem s2 : FnScope n2 ["top", "bottom"] (defScope (top 10)) := ⟨rfl, rfl, rfl, by decide +kernel, rfl, by decide +kernel, by decide +kernel⟩
theorem c3 : chkS { T with gn := 0, gb := true } n3 b3 (defScope (top 11)) (defBody (top 11)) = true := by kernel_rfl
theorem s3 : FnScope n3 ["value"] (defScope (top 11)) := ⟨rfl, rfl, rfl, by decide +kernel, rfl, by decide +kernel, by decide +kernel⟩
theorem c4 : chkS { T with gn := 0, gb := true } n4 b4 (defScope (top 12)) (defBody (top 12)) = true := by kernel_rfl
theorem s4 : FnScope n4 ["first", "second"] (defScope (top 12)) := ⟨rfl, rfl, rfl, by decide +kernel, rfl, by decide +kernel, by decide +kernel⟩
theorem c5 : chkS { T with gn := 0, gb := true } n5 b5 (defScope (top 13)) (defBody (top 13)) = true := by kernel_rfl
theorem s5 : FnScope n5 ["first", "second"] (defScope (top 13)) := ⟨rfl, rfl, rfl, by decide +kernel, rfl, by decide +kernel, by decide +kernel⟩
theorem c6 : chkS { T with gn := 0, gb := true } n6 b6 (defScope (top 14)) (defBody (top 14)) = true := by kernel_rfl
theorem s6 : FnScope n6 ["first", "second"] (defScope (top 14)) := ⟨rfl, rfl, rfl, by decide +kernel, rfl, by decide +kernel, by decide +kernel⟩
theorem c7 : chkS { T with gn := 0, gb := true } n7 b7 (defScope (top 15)) (defBody (top 15)) = true := by kernel_rfl
theorem s7 : FnScope n7 ["first", "second"] (defScope (top 15)) := ⟨rfl, rfl, rfl, by decide +kernel, rfl, by decide +kernel, by decide +kernel⟩
theorem c8 : chkS { T with gn := 0, gb := true } n8 b8 (defScope (top 16)) (defBody (top 16)) = true := by kernel_rfl
theorem s8 : FnScope n8 ["values"] (defScope (top 16)) := ⟨rfl, rfl, rfl, by decide +kernel, rfl, by decide +kernel, by decide +kernel⟩
theorem c9 : chkS { T with gn := 0, gb := true } n9 b9 (defScope (top 17)) (defBody (top 17)) = true := by kernel_rfl
theorem s9 : FnScope n9 ["first", "second"] (defScope (top 17)) := ⟨rfl, rfl, rfl, by decide +kernel, rfl, by decide +kernel, by decide +kernel⟩
theorem c10 : chkS { T with gn := 1, gb := true } n10 b10 (defScope (top 20)) (defBody (top 20)) = true := by kernel_rfl
theorem s10 : FnScope n10 ["row"] (defScope (top 20)) := ⟨rfl, rfl, rfl, by decide +kernel, rfl, by decide +kernel, by decide +kernel⟩
theorem c11 : chkS { T with gn := 0, gb := true } n11 b11 (defScope (top 21)) (defBody (top 21)) = true := by kernel_rfl
theorem s11 : FnScope n11 ["row"] (defScope (top 21)) := ⟨rfl, rfl, rfl, by decide +kernel, rfl, by decide +kernel, by decide +kernel⟩
theorem c12 : chkS { T with gn := 0, gb := true } n12 b12 (defScope (top 22)) (defBody (top 22)) = true := by kernel_rfl
theorem s12 : FnScope n12 ["row"] (defScope (top 22)) := ⟨rfl, rfl, rfl, by decide +kernel, rfl, by decide +kernel, by decide +kernel⟩
theorem c13 : chkS { T with gn := 0, gb := true } n13 b13 (defScope (top 23)) (defBody (top 23)) = true := by kernel_rfl
theorem s13 : FnScope n13 ["row", "value"] (defScope (top 23)) := ⟨rfl, rfl, rfl, by decide +kernel, rfl, by decide +kernel, by decide +kernel⟩
theorem c14 : chkS { T with gn := 0, gb := true } n14 b14 (defScope (top 25)) (defBody (top 25)) = true := by kernel_rfl
theorem s14 : FnScope n14 ["first", "second", "places"] (defScope (top 25)) := ⟨rfl, rfl, rfl, by decide +kernel, rfl, by decide +kernel, by decide +kernel⟩
theorem c15 : chkS { T with gn := 0, gb := true } n15 b15 (defScope (top 26)) (defBody (top 26)) = true := by kernel_rfl
theorem s15 : FnScope n15 ["row", "number", "places"] (defScope (top 26)) := ⟨rfl, rfl, rfl, by decide +kernel, rfl, by decide +kernel, by decide +kernel⟩
theorem c16 : chkS { T with gn := 0, gb := true } n16 b16 (defScope (top 27)) (defBody (top 27)) = true := by kernel_rfl
theorem s16 : FnScope n16 ["row", "value"] (defScope (top 27)) := ⟨rfl, rfl, rfl, by decide +kernel, rfl, by decide +kernel, by decide +kernel⟩
theorem c17 : chkS { T with gn := 0, gb := true } n17 b17 (defScope (top 28)) (defBody (top 28)) = true := by kernel_rfl
theorem s17 : FnScope n17 ["row", "many"] (defScope (top 28)) := ⟨rfl, rfl, rfl, by decide +kernel, rfl, by decide +kernel, by decide +kernel⟩
theorem c18 : chkS { T with gn := 0, gb := true } n18 b18 (defScope (top 29)) (defBody (top 29)) = true := by kernel_rfl
theorem s18 : FnScope n18 ["row"] (defScope (top 29)) := ⟨rfl, rfl, rfl, by decide +kernel, rfl, by decide +kernel, by decide +kernel⟩
theorem c19 : chkS { T with gn := 0, gb := true } n19 b19 (defScope (top 30)) (defBody (top 30)) = true := by kernel_rfl
theorem s19 : FnScope n19 ["many"] (defScope (top 30)) := ⟨rfl, rfl, rfl, by decide +kernel, rfl, by decide +kernel, by decide +kernel⟩
theorem c20 : chkS { T with gn := 0, gb := true } n20 b20 (defScope (top 31)) (defBody (top 31)) = true := by kernel_rfl
theorem s20 : FnScope n20 ["row", "word"] (defScope (top 31)) := ⟨rfl, rfl, rfl, by decide +kernel, rfl, by decide +kernel, by decide +kernel⟩
theorem c21 : chkS { T with gn := 1, gb := true } n21 b21 (defScope (top 32)) (defBody (top 32)) = true := by kernel_rfl
theorem s21 : FnScope n21 ["word"] (defScope (top 32)) := ⟨rfl, rfl, rfl, by decide +kernel, rfl, by decide +kernel, by decide +kernel⟩
theorem c22 : chkS { T with gn := 0, gb := true } n22 b22 (defScope (top 33)) (defBody (top 33)) = true := by kernel_rfl
theorem s22 : FnScope n22 ["row", "places"] (defScope (top 33)) := ⟨rfl, rfl, rfl, by decide +kernel, rfl, by decide +kernel, by decide +kernel⟩
theorem c23 : chkS { T with gn := 0, gb := true } n23 b23 (defScope (top 35)) (defBody (top 35)) = true := by kernel_rfl
theorem s23 : FnScope n23 ["script", "k"] (defScope (top 35)) := ⟨rfl, rfl, rfl, by decide +kernel, rfl, by decide +kernel, by decide +kernel⟩
theorem c24 : chkS { T with gn := 0, gb := true } n24 b24 (defScope (top 36)) (defBody (top 36)) = true := by kernel_rfl
theorem s24 : FnScope n24 ["cell", "count"] (defScope (top 36)) := ⟨rfl, rfl, rfl, by decide +kernel, rfl, by decide +kernel, by decide +kernel⟩
theorem c25 : chkS { T with gn := 0, gb := true } n25 b25 (defScope (top 37)) (defBody (top 37)) = true := by kernel_rfl
theorem s25 : FnScope n25 ["top", "bottom"] (defScope (top 37)) := ⟨rfl, rfl, rfl, by decide +kernel, rfl, by decide +kernel, by decide +kernel⟩
theorem c26 : chkS { T with gn := 0, gb := true } n26 b26 (defScope (top 38)) (defBody (top 38)) = true := by kernel_rfl
theorem s26 : FnScope n26 ["one", "two"] (defScope (top 38)) := ⟨rfl, rfl, rfl, by decide +kernel, rfl, by decide +kernel, by decide +kernel⟩
theorem c27 : chkS { T with gn := 0, gb := true } n27 b27 (defScope (top 39)) (defBody (top 39)) = true := by kernel_rfl
theorem s27 : FnScope n27 ["one", "two"] (defScope (top 39)) := ⟨rfl, rfl, rfl, by decide +kernel, rfl, by decide +kernel, by decide +kernel⟩
theorem c28 : chkS { T with gn := 0, gb := true } n28 b28 (defScope (top 40)) (defBody (top 40)) = true := by kernel_rfl
theorem s28 : FnScope n28 ["one", "two"] (defScope (top 40)) := ⟨rfl, rfl, rfl, by decide +kernel, rfl, by decide +kernel, by decide +kernel⟩
theorem c29 : chkS { T with gn := 0, gb := true } n29 b29 (defScope (top 41)) (defBody (top 41)) = true := by kernel_rfl
theorem s29 : FnScope n29 ["row"] (defScope (top 41)) := ⟨rfl, rfl, rfl, by decide +kernel, rfl, by decide +kernel, by decide +kernel⟩
theorem c30 : chkS { T with gn := 0, gb := true } n30 b30 (defScope (top 42)) (defBody (top 42)) = true := by kernel_rfl
theorem s30 : FnScope n30 ["one", "two"] (defScope (top 42)) := ⟨rfl, rfl, rfl, by decide +kernel, rfl, by decide +kernel, by decide +kernel⟩
theorem c31 : chkS { T with gn := 0, gb := true } n31 b31 (defScope (top 43)) (defBody (top 43)) = true := by kernel_rfl
theorem s31 : FnScope n31 ["n", "at", "many"] (defScope (top 43)) := ⟨rfl, rfl, rfl, by decide +kernel, rfl, by decide +kernel, by decide +kernel⟩
theorem c32 : chkS { T with gn := 0, gb := true } n32 b32 (defScope (top 44)) (defBody (top 44)) = true := by kernel_rfl
theorem s32 : FnScope n32 ["row", "other"] (defScope (top 44)) := ⟨rfl, rfl, rfl, by decide +kernel, rfl, by decide +kernel, by decide +kernel⟩
theorem c33 : chkS { T with gn := 0, gb := true } n33 b33 (defScope (top 45)) (defBody (top 45)) = true := by kernel_rfl
theorem s33 : FnScope n33 ["k", "row", "many"] (defScope (top 45)) := ⟨rfl, rfl, rfl, by decide +kernel, rfl, by decide +kernel, by decide +kernel⟩
theorem c34 : chkS { T with gn := 0, gb := true } n34 b34 (defScope (top 46)) (defBody (top 46)) = true := by kernel_rfl
theorem s34 : FnScope n34 ["script"] (defScope (top 46)) := ⟨rfl, rfl, rfl, by decide +kernel, rfl, by decide +kernel, by decide +kernel⟩
abbrev d0 : He.DefD := ⟨("is_whole", none), "is_whole", "is_whole", defArgs (top 8), defBody (top 8), defScope (top 8), [.non], []⟩
abbrev d1 : He.DefD := ⟨("common", none), "common", "common", defArgs (top 9), defBody (top 9), defScope (top 9), [], []⟩
abbrev d2 : He.DefD := ⟨("ratio", none), "ratio", "ratio", defArgs (top 10), defBody (top 10), defScope (top 10), [.int 1], []⟩
abbrev d3 : He.DefD := ⟨("is_ratio", none), "is_ratio", "is_ratio", defArgs (top 11), defBody (top 11), defScope (top 11), [], []⟩
abbrev d4 : He.DefD := ⟨("add", none), "add", "add", defArgs (top 12), defBody (top 12), defScope (top 12), [], []⟩
abbrev d5 : He.DefD := ⟨("less", none), "less", "less", defArgs (top 13), defBody (top 13), defScope (top 13), [], []⟩
abbrev d6 : He.DefD := ⟨("times", none), "times", "times", defArgs (top 14), defBody (top 14), defScope (top 14), [], []⟩
abbrev d7 : He.DefD := ⟨("over", none), "over", "over", defArgs (top 15), defBody (top 15), defScope (top 15), [], []⟩
abbrev d8 : He.DefD := ⟨("total", none), "total", "total", defArgs (top 16), defBody (top 16), defScope (top 16), [], []⟩
abbrev d9 : He.DefD := ⟨("is_under", none), "is_under", "is_under", defArgs (top 17), defBody (top 17), defScope (top 17), [], []⟩
abbrev d10 : He.DefD := ⟨("is_row", none), "is_row", "is_row", defArgs (top 20), defBody (top 20), defScope (top 20), [], []⟩
abbrev d11 : He.DefD := ⟨("check_chances", none), "check_chances", "check_chances", defArgs (top 21), defBody (top 21), defScope (top 21), [], []⟩
abbrev d12 : He.DefD := ⟨("mean", none), "mean", "mean", defArgs (top 22), defBody (top 22), defScope (top 22), [], []⟩
abbrev d13 : He.DefD := ⟨("worth", none), "worth", "worth", defArgs (top 23), defBody (top 23), defScope (top 23), [], []⟩
abbrev d14 : He.DefD := ⟨("poly_times", none), "poly_times", "poly_times", defArgs (top 25), defBody (top 25), defScope (top 25), [], []⟩
abbrev d15 : He.DefD := ⟨("poly_power", none), "poly_power", "poly_power", defArgs (top 26), defBody (top 26), defScope (top 26), [], []⟩
abbrev d16 : He.DefD := ⟨("is_death_bound", none), "is_death_bound", "is_death_bound", defArgs (top 27), defBody (top 27), defScope (top 27), [], []⟩
abbrev d17 : He.DefD := ⟨("born_chance", none), "born_chance", "born_chance", defArgs (top 28), defBody (top 28), defScope (top 28), [], []⟩
abbrev d18 : He.DefD := ⟨("mean_born", none), "mean_born", "mean_born", defArgs (top 29), defBody (top 29), defScope (top 29), [], []⟩
abbrev d19 : He.DefD := ⟨("family_words", none), "family_words", "family_words", defArgs (top 30), defBody (top 30), defScope (top 30), [], []⟩
abbrev d20 : He.DefD := ⟨("word_chance", none), "word_chance", "word_chance", defArgs (top 31), defBody (top 31), defScope (top 31), [], []⟩
abbrev d21 : He.DefD := ⟨("is_family", none), "is_family", "is_family", defArgs (top 32), defBody (top 32), defScope (top 32), [], []⟩
abbrev d22 : He.DefD := ⟨("whole_chance", none), "whole_chance", "whole_chance", defArgs (top 33), defBody (top 33), defScope (top 33), [], []⟩
abbrev d23 : He.DefD := ⟨("_law_cell", none), "_law_cell", "_law_cell", defArgs (top 35), defBody (top 35), defScope (top 35), [], []⟩
abbrev d24 : He.DefD := ⟨("_law_draws", none), "_law_draws", "_law_draws", defArgs (top 36), defBody (top 36), defScope (top 36), [], []⟩
abbrev d25 : He.DefD := ⟨("_law_low", none), "_law_low", "_law_low", defArgs (top 37), defBody (top 37), defScope (top 37), [], []⟩
abbrev d26 : He.DefD := ⟨("_law_add", none), "_law_add", "_law_add", defArgs (top 38), defBody (top 38), defScope (top 38), [], []⟩
abbrev d27 : He.DefD := ⟨("_law_mul", none), "_law_mul", "_law_mul", defArgs (top 39), defBody (top 39), defScope (top 39), [], []⟩
abbrev d28 : He.DefD := ⟨("_law_less", none), "_law_less", "_law_less", defArgs (top 40), defBody (top 40), defScope (top 40), [], []⟩
abbrev d29 : He.DefD := ⟨("_law_sum", none), "_law_sum", "_law_sum", defArgs (top 41), defBody (top 41), defScope (top 41), [], []⟩
abbrev d30 : He.DefD := ⟨("_law_under", none), "_law_under", "_law_under", defArgs (top 42), defBody (top 42), defScope (top 42), [], []⟩
abbrev d31 : He.DefD := ⟨("_law_row", none), "_law_row", "_law_row", defArgs (top 43), defBody (top 43), defScope (top 43), [], []⟩
abbrev d32 : He.DefD := ⟨("_law_sums", none), "_law_sums", "_law_sums", defArgs (top 44), defBody (top 44), defScope (top 44), [], []⟩
abbrev d33 : He.DefD := ⟨("_law_refuses", none), "_law_refuses", "_law_refuses", defArgs (top 45), defBody (top 45), defScope (top 45), [], []⟩
abbrev d34 : He.DefD := ⟨("law", none), "law", "law", defArgs (top 46), defBody (top 46), defScope (top 46), [], []⟩
def fn : List He.DefD := [d0, d1, d2, d3, d4, d5, d6, d7, d8, d9, d10, d11, d12, d13, d14, d15, d16, d17, d18, d19, d20, d21, d22, d23, d24, d25, d26, d27, d28, d29, d30, d31, d32, d33, d34]
def fa : List He.Fa := [.glo "is_whole",
  .glo "common",
  .glo "ratio",
  .glo "is_ratio",
  .glo "add",
  .glo "less",
  .glo "times",
  .glo "over",
  .glo "total",
  .glo "is_under",
  .glo "is_row",
  .glo "check_chances",
  .glo "mean",
  .glo "worth",
  .glo "poly_times",
  .glo "poly_power",
  .glo "is_death_bound",
  .glo "born_chance",
  .glo "mean_born",
  .glo "family_words",
  .glo "word_chance",
  .glo "is_family",
  .glo "whole_chance",
  .glo "_law_cell",
  .glo "_law_draws",
  .glo "_law_low",
  .glo "_law_add",
  .glo "_law_mul",
  .glo "_law_less",
  .glo "_law_sum",
  .glo "_law_under",
  .glo "_law_row",
  .glo "_law_sums",
  .glo "_law_refuses",
  .glo "law",
  .free "isinstance",
  .free "bool",
  .free "int",
  .free "abs",
  .free "len",
  .free "tuple",
  .free "all",
  .free "enumerate",
  .free "reversed",
  .free "min",
  .free "range",
  .free "sorted",
  .free "sum",
  .glo "ChanceError",
  .glo "BadRatio",
  .glo "BadNumber",
  .glo "BadRow",
  .exc "ChanceError",
  .exc "BadRatio",
  .exc "BadNumber",
  .exc "BadRow",
  .exm "ChanceError" "ChanceError" true,
  .exm "ChanceError" "BadRatio" false,
  .exm "ChanceError" "BadNumber" false,
  .exm "ChanceError" "BadRow" false,
  .exm "BadRatio" "ChanceError" true,
  .exm "BadRatio" "BadRatio" true,
  .exm "BadRatio" "BadNumber" false,
  .exm "BadRatio" "BadRow" false,
  .exm "BadNumber" "ChanceError" true,
  .exm "BadNumber" "BadRatio" false,
  .exm "BadNumber" "BadNumber" true,
  .exm "BadNumber" "BadRow" false,
  .exm "BadRow" "ChanceError" true,
  .exm "BadRow" "BadRatio" false,
  .exm "BadRow" "BadNumber" false,
  .exm "BadRow" "BadRow" true,
  .glo "NOUGHT",
  .glo "ONE",
  .int "MOST" 12]
abbrev Rw : PySem.W.OpenRow := PySem.W.OpenLaw.row PySem.Challenge.rw_chanceworks_k20_whole_ever_born
abbrev tf : List He.Defn := [(("is_row" : Str), none), (("is_family" : Str), none)]
def ex (K : PySem.W.Frag) : Bool := He.tupB K "NOUGHT" [.int 0, .int 1] && He.tupB K "ONE" [.int 1, .int 1]
abbrev hk : PySem.W.Hook := He.hookX 4 fa fn [] tf ex
def ob (s : PySem.W.SharedT) : He.AlX := He.obsX 4 fa fn [] tf ex (HandSHeadRun.getT s)
theorem ob_eq (s : PySem.W.SharedT) : ob s = hk.obs s.abs := He.obsX_eq (HandSHeadRun.getT_eq s)
def loose : List Str := (["__name__", "ChanceError", "BadRatio", "BadNumber", "BadRow", "NOUGHT", "ONE", "is_whole", "common", "ratio", "is_ratio", "add", "less", "times", "over", "total", "is_under", "MOST", "is_row", "check_chances"] : List Str) ++ (["mean", "worth", "poly_times", "poly_power", "is_death_bound", "born_chance", "mean_born", "family_words", "word_chance", "is_family", "whole_chance", "_law_cell", "_law_draws", "_law_low", "_law_add", "_law_mul", "_law_less", "_law_sum", "_law_under", "_law_row"] : List Str) ++ (["_law_sums", "_law_refuses"] : List Str)
theorem runE (w : World) : HandSHeadRun.RunEq Rw (PySem.W.view Rw.prog [46]) hk ob 6000 loose w := by
  intro os
  kernel_rfl
section
local instance : Tabs := ⟨[]⟩
variable {K : PySem.W.Frag} {h : Heap} {mg : Str → Option Value}
theorem k0 (X : K.In h) (G : h.Ns mainGlobals mg) (c : He.SaysD fa fn K) : ∃ g fd, FnFact K mg T bs (tf.map (He.cT K)) 0 ⟨"is_whole", ["value", "low"], [.none]⟩ g fd := by
  obtain ⟨fd, F⟩ := c.def_ 0 (d := d0) rfl
  exact ⟨_, fd, He.glo_ok X G (c.fact 0 (f := .glo "is_whole") rfl), bind_1 rfl rfl (F.binds1 1 0 (fun z => by cases z) rfl fun T kV doc pm an cdv ct us its l1 l2 => match us, its, l1, l2 with | [_], [_], _, _ => ⟨_, rfl, rfl⟩) (F.binds1 2 1 (fun z => by cases z) rfl fun T kV doc pm an cdv ct us its l1 l2 => match us, its, l1, l2 with | [_, _], [_], _, _ => ⟨_, rfl, rfl⟩) (fun S => by simp [RpA, Rp, He.DefD.dvs, d0, He.Dv.v]), n0, b0, _, _, _, _, _, _, 0, F, s0, rfl, by decide, c0, fun z => absurd rfl z⟩
theorem k1 (X : K.In h) (G : h.Ns mainGlobals mg) (c : He.SaysD fa fn K) : ∃ g fd, FnFact K mg T bs (tf.map (He.cT K)) 1 ⟨"common", ["first", "second"], []⟩ g fd := by
  obtain ⟨fd, F⟩ := c.def_ 1 (d := d1) rfl
  exact ⟨_, fd, He.glo_ok X G (c.fact 1 (f := .glo "common") rfl), bind_plain rfl (F.bindsN fun _ _ _ _ _ _ us hl => match us, hl with | [_, _], _ => rfl), n1, b1, _, _, _, _, _, _, 0, F, s1, rfl, by decide, c1, fun z => absurd rfl z⟩
theorem k2 (X : K.In h) (G : h.Ns mainGlobals mg) (c : He.SaysD fa fn K) : ∃ g fd, FnFact K mg T bs (tf.map (He.cT K)) 2 ⟨"ratio", ["top", "bottom"], [.int 1]⟩ g fd := by
  obtain ⟨fd, F⟩ := c.def_ 2 (d := d2) rfl
  exact ⟨_, fd, He.glo_ok X G (c.fact 2 (f := .glo "ratio") rfl), bind_1 rfl rfl (F.binds1 1 0 (fun z => by cases z) rfl fun T kV doc pm an cdv ct us its l1 l2 => match us, its, l1, l2 with | [_], [_], _, _ => ⟨_, rfl, rfl⟩) (F.binds1 2 1 (fun z => by cases z) rfl fun T kV doc pm an cdv ct us its l1 l2 => match us, its, l1, l2 with | [_, _], [_], _, _ => ⟨_, rfl, rfl⟩) (fun S => by simp [RpA, Rp, He.DefD.dvs, d2, He.Dv.v]), n2, b2, _, _, _, _, _, _, 0, F, s2, rfl, by decide, c2, fun z => absurd rfl z⟩
theorem k3 (X : K.In h) (G : h.Ns mainGlobals mg) (c : He.SaysD fa fn K) : ∃ g fd, FnFact K mg T bs (tf.map (He.cT K)) 3 ⟨"is_ratio", ["value"], []⟩ g fd := by
  obtain ⟨fd, F⟩ := c.def_ 3 (d := d3) rfl
  exact ⟨_, fd, He.glo_ok X G (c.fact 3 (f := .glo "is_ratio") rfl), bind_plain rfl (F.bindsN fun _ _ _ _ _ _ us hl => match us, hl with | [_], _ => rfl), n3, b3, _, _, _, _, _, _, 0, F, s3, rfl, by decide, c3, fun z => absurd rfl z⟩
theorem k4 (X : K.In h) (G : h.Ns mainGlobals mg) (c : He.SaysD fa fn K) : ∃ g fd, FnFact K mg T bs (tf.map (He.cT K)) 4 ⟨"add", ["first", "second"], []⟩ g fd := by
  obtain ⟨fd, F⟩ := c.def_ 4 (d := d4) rfl
  exact ⟨_, fd, He.glo_ok X G (c.fact 4 (f := .glo "add") rfl), bind_plain rfl (F.bindsN fun _ _ _ _ _ _ us hl => match us, hl with | [_, _], _ => rfl), n4, b4, _, _, _, _, _, _, 0, F, s4, rfl, by decide, c4, fun z => absurd rfl z⟩
theorem k5 (X : K.In h) (G : h.Ns mainGlobals mg) (c : He.SaysD fa fn K) : ∃ g fd, FnFact K mg T bs (tf.map (He.cT K)) 5 ⟨"less", ["first", "second"], []⟩ g fd := by
  obtain ⟨fd, F⟩ := c.def_ 5 (d := d5) rfl
  exact ⟨_, fd, He.glo_ok X G (c.fact 5 (f := .glo "less") rfl), bind_plain rfl (F.bindsN fun _ _ _ _ _ _ us hl => match us, hl with | [_, _], _ => rfl), n5, b5, _, _, _, _, _, _, 0, F, s5, rfl, by decide, c5, fun z => absurd rfl z⟩
theorem k6 (X : K.In h) (G : h.Ns mainGlobals mg) (c : He.SaysD fa fn K) : ∃ g fd, FnFact K mg T bs (tf.map (He.cT K)) 6 ⟨"times", ["first", "second"], []⟩ g fd := by
  obtain ⟨fd, F⟩ := c.def_ 6 (d := d6) rfl
  exact ⟨_, fd, He.glo_ok X G (c.fact 6 (f := .glo "times") rfl), bind_plain rfl (F.bindsN fun _ _ _ _ _ _ us hl => match us, hl with | [_, _], _ => rfl), n6, b6, _, _, _, _, _, _, 0, F, s6, rfl, by decide, c6, fun z => absurd rfl z⟩
theorem k7 (X : K.In h) (G : h.Ns mainGlobals mg) (c : He.SaysD fa fn K) : ∃ g fd, FnFact K mg T bs (tf.map (He.cT K)) 7 ⟨"over", ["first", "second"], []⟩ g fd := by
  obtain ⟨fd, F⟩ := c.def_ 7 (d := d7) rfl
  exact ⟨_, fd, He.glo_ok X G (c.fact 7 (f := .glo "over") rfl), bind_plain rfl (F.bindsN fun _ _ _ _ _ _ us hl => match us, hl with | [_, _], _ => rfl), n7, b7, _, _, _, _, _, _, 0, F, s7, rfl, by decide, c7, fun z => absurd rfl z⟩
theorem k8 (X : K.In h) (G : h.Ns mainGlobals mg) (c : He.SaysD fa fn K) : ∃ g fd, FnFact K mg T bs (tf.map (He.cT K)) 8 ⟨"total", ["values"], []⟩ g fd := by
  obtain ⟨fd, F⟩ := c.def_ 8 (d := d8) rfl
  exact ⟨_, fd, He.glo_ok X G (c.fact 8 (f := .glo "total") rfl), bind_plain rfl (F.bindsN fun _ _ _ _ _ _ us hl => match us, hl with | [_], _ => rfl), n8, b8, _, _, _, _, _, _, 0, F, s8, rfl, by decide, c8, fun z => absurd rfl z⟩
theorem k9 (X : K.In h) (G : h.Ns mainGlobals mg) (c : He.SaysD fa fn K) : ∃ g fd, FnFact K mg T bs (tf.map (He.cT K)) 9 ⟨"is_under", ["first", "second"], []⟩ g fd := by
  obtain ⟨fd, F⟩ := c.def_ 9 (d := d9) rfl
  exact ⟨_, fd, He.glo_ok X G (c.fact 9 (f := .glo "is_under") rfl), bind_plain rfl (F.bindsN fun _ _ _ _ _ _ us hl => match us, hl with | [_, _], _ => rfl), n9, b9, _, _, _, _, _, _, 0, F, s9, rfl, by decide, c9, fun z => absurd rfl z⟩
theorem k10 (X : K.In h) (G : h.Ns mainGlobals mg) (c : He.SaysD fa fn K) : ∃ g fd, FnFact K mg T bs (tf.map (He.cT K)) 10 ⟨"is_row", ["row"], []⟩ g fd := by
  obtain ⟨fd, F⟩ := c.def_ 10 (d := d10) rfl
  exact ⟨_, fd, He.glo_ok X G (c.fact 10 (f := .glo "is_row") rfl), bind_plain rfl (F.bindsN fun _ _ _ _ _ _ us hl => match us, hl with | [_], _ => rfl), n10, b10, _, _, _, _, _, _, 1, F, s10, rfl, by decide, c10, fun _ => code_in (tf := tf) F (by simp [tf])⟩
theorem k11 (X : K.In h) (G : h.Ns mainGlobals mg) (c : He.SaysD fa fn K) : ∃ g fd, FnFact K mg T bs (tf.map (He.cT K)) 11 ⟨"check_chances", ["row"], []⟩ g fd := by
  obtain ⟨fd, F⟩ := c.def_ 11 (d := d11) rfl
  exact ⟨_, fd, He.glo_ok X G (c.fact 11 (f := .glo "check_chances") rfl), bind_plain rfl (F.bindsN fun _ _ _ _ _ _ us hl => match us, hl with | [_], _ => rfl), n11, b11, _, _, _, _, _, _, 0, F, s11, rfl, by decide, c11, fun z => absurd rfl z⟩
theorem k12 (X : K.In h) (G : h.Ns mainGlobals mg) (c : He.SaysD fa fn K) : ∃ g fd, FnFact K mg T bs (tf.map (He.cT K)) 12 ⟨"mean", ["row"], []⟩ g fd := by
  obtain ⟨fd, F⟩ := c.def_ 12 (d := d12) rfl
  exact ⟨_, fd, He.glo_ok X G (c.fact 12 (f := .glo "mean") rfl), bind_plain rfl (F.bindsN fun _ _ _ _ _ _ us hl => match us, hl with | [_], _ => rfl), n12, b12, _, _, _, _, _, _, 0, F, s12, rfl, by decide, c12, fun z => absurd rfl z⟩
theorem k13 (X : K.In h) (G : h.Ns mainGlobals mg) (c : He.SaysD fa fn K) : ∃ g fd, FnFact K mg T bs (tf.map (He.cT K)) 13 ⟨"worth", ["row", "value"], []⟩ g fd := by
  obtain ⟨fd, F⟩ := c.def_ 13 (d := d13) rfl
  exact ⟨_, fd, He.glo_ok X G (c.fact 13 (f := .glo "worth") rfl), bind_plain rfl (F.bindsN fun _ _ _ _ _ _ us hl => match us, hl with | [_, _], _ => rfl), n13, b13, _, _, _, _, _, _, 0, F, s13, rfl, by decide, c13, fun z => absurd rfl z⟩
theorem k14 (X : K.In h) (G : h.Ns mainGlobals mg) (c : He.SaysD fa fn K) : ∃ g fd, FnFact K mg T bs (tf.map (He.cT K)) 14 ⟨"poly_times", ["first", "second", "places"], []⟩ g fd := by
  obtain ⟨fd, F⟩ := c.def_ 14 (d := d14) rfl
  exact ⟨_, fd, He.glo_ok X G (c.fact 14 (f := .glo "poly_times") rfl), bind_plain rfl (F.bindsN fun _ _ _ _ _ _ us hl => match us, hl with | [_, _, _], _ => rfl), n14, b14, _, _, _, _, _, _, 0, F, s14, rfl, by decide, c14, fun z => absurd rfl z⟩
theorem k15 (X : K.In h) (G : h.Ns mainGlobals mg) (c : He.SaysD fa fn K) : ∃ g fd, FnFact K mg T bs (tf.map (He.cT K)) 15 ⟨"poly_power", ["row", "number", "places"], []⟩ g fd := by
  obtain ⟨fd, F⟩ := c.def_ 15 (d := d15) rfl
  exact ⟨_, fd, He.glo_ok X G (c.fact 15 (f := .glo "poly_power") rfl), bind_plain rfl (F.bindsN fun _ _ _ _ _ _ us hl => match us, hl with | [_, _, _], _ => rfl), n15, b15, _, _, _, _, _, _, 0, F, s15, rfl, by decide, c15, fun z => absurd rfl z⟩
theorem k16 (X : K.In h) (G : h.Ns mainGlobals mg) (c : He.SaysD fa fn K) : ∃ g fd, FnFact K mg T bs (tf.map (He.cT K)) 16 ⟨"is_death_bound", ["row", "value"], []⟩ g fd := by
  obtain ⟨fd, F⟩ := c.def_ 16 (d := d16) rfl
  exact ⟨_, fd, He.glo_ok X G (c.fact 16 (f := .glo "is_death_bound") rfl), bind_plain rfl (F.bindsN fun _ _ _ _ _ _ us hl => match us, hl with | [_, _], _ => rfl), n16, b16, _, _, _, _, _, _, 0, F, s16, rfl, by decide, c16, fun z => absurd rfl z⟩
theorem k17 (X : K.In h) (G : h.Ns mainGlobals mg) (c : He.SaysD fa fn K) : ∃ g fd, FnFact K mg T bs (tf.map (He.cT K)) 17 ⟨"born_chance", ["row", "many"], []⟩ g fd := by
  obtain ⟨fd, F⟩ := c.def_ 17 (d := d17) rfl
  exact ⟨_, fd, He.glo_ok X G (c.fact 17 (f := .glo "born_chance") rfl), bind_plain rfl (F.bindsN fun _ _ _ _ _ _ us hl => match us, hl with | [_, _], _ => rfl), n17, b17, _, _, _, _, _, _, 0, F, s17, rfl, by decide, c17, fun z => absurd rfl z⟩
theorem k18 (X : K.In h) (G : h.Ns mainGlobals mg) (c : He.SaysD fa fn K) : ∃ g fd, FnFact K mg T bs (tf.map (He.cT K)) 18 ⟨"mean_born", ["row"], []⟩ g fd := by
  obtain ⟨fd, F⟩ := c.def_ 18 (d := d18) rfl
  exact ⟨_, fd, He.glo_ok X G (c.fact 18 (f := .glo "mean_born") rfl), bind_plain rfl (F.bindsN fun _ _ _ _ _ _ us hl => match us, hl with | [_], _ => rfl), n18, b18, _, _, _, _, _, _, 0, F, s18, rfl, by decide, c18, fun z => absurd rfl z⟩
theorem k19 (X : K.In h) (G : h.Ns mainGlobals mg) (c : He.SaysD fa fn K) : ∃ g fd, FnFact K mg T bs (tf.map (He.cT K)) 19 ⟨"family_words", ["many"], []⟩ g fd := by
  obtain ⟨fd, F⟩ := c.def_ 19 (d := d19) rfl
  exact ⟨_, fd, He.glo_ok X G (c.fact 19 (f := .glo "family_words") rfl), bind_plain rfl (F.bindsN fun _ _ _ _ _ _ us hl => match us, hl with | [_], _ => rfl), n19, b19, _, _, _, _, _, _, 0, F, s19, rfl, by decide, c19, fun z => absurd rfl z⟩
theorem k20 (X : K.In h) (G : h.Ns mainGlobals mg) (c : He.SaysD fa fn K) : ∃ g fd, FnFact K mg T bs (tf.map (He.cT K)) 20 ⟨"word_chance", ["row", "word"], []⟩ g fd := by
  obtain ⟨fd, F⟩ := c.def_ 20 (d := d20) rfl
  exact ⟨_, fd, He.glo_ok X G (c.fact 20 (f := .glo "word_chance") rfl), bind_plain rfl (F.bindsN fun _ _ _ _ _ _ us hl => match us, hl with | [_, _], _ => rfl), n20, b20, _, _, _, _, _, _, 0, F, s20, rfl, by decide, c20, fun z => absurd rfl z⟩
theorem k21 (X : K.In h) (G : h.Ns mainGlobals mg) (c : He.SaysD fa fn K) : ∃ g fd, FnFact K mg T bs (tf.map (He.cT K)) 21 ⟨"is_family", ["word"], []⟩ g fd := by
  obtain ⟨fd, F⟩ := c.def_ 21 (d := d21) rfl
  exact ⟨_, fd, He.glo_ok X G (c.fact 21 (f := .glo "is_family") rfl), bind_plain rfl (F.bindsN fun _ _ _ _ _ _ us hl => match us, hl with | [_], _ => rfl), n21, b21, _, _, _, _, _, _, 1, F, s21, rfl, by decide, c21, fun _ => code_in (tf := tf) F (by simp [tf])⟩
theorem k22 (X : K.In h) (G : h.Ns mainGlobals mg) (c : He.SaysD fa fn K) : ∃ g fd, FnFact K mg T bs (tf.map (He.cT K)) 22 ⟨"whole_chance", ["row", "places"], []⟩ g fd := by
  obtain ⟨fd, F⟩ := c.def_ 22 (d := d22) rfl
  exact ⟨_, fd, He.glo_ok X G (c.fact 22 (f := .glo "whole_chance") rfl), bind_plain rfl (F.bindsN fun _ _ _ _ _ _ us hl => match us, hl with | [_, _], _ => rfl), n22, b22, _, _, _, _, _, _, 0, F, s22, rfl, by decide, c22, fun z => absurd rfl z⟩
theorem k23 (X : K.In h) (G : h.Ns mainGlobals mg) (c : He.SaysD fa fn K) : ∃ g fd, FnFact K mg T bs (tf.map (He.cT K)) 23 ⟨"_law_cell", ["script", "k"], []⟩ g fd := by
  obtain ⟨fd, F⟩ := c.def_ 23 (d := d23) rfl
  exact ⟨_, fd, He.glo_ok X G (c.fact 23 (f := .glo "_law_cell") rfl), bind_plain rfl (F.bindsN fun _ _ _ _ _ _ us hl => match us, hl with | [_, _], _ => rfl), n23, b23, _, _, _, _, _, _, 0, F, s23, rfl, by decide, c23, fun z => absurd rfl z⟩
theorem k24 (X : K.In h) (G : h.Ns mainGlobals mg) (c : He.SaysD fa fn K) : ∃ g fd, FnFact K mg T bs (tf.map (He.cT K)) 24 ⟨"_law_draws", ["cell", "count"], []⟩ g fd := by
  obtain ⟨fd, F⟩ := c.def_ 24 (d := d24) rfl
  exact ⟨_, fd, He.glo_ok X G (c.fact 24 (f := .glo "_law_draws") rfl), bind_plain rfl (F.bindsN fun _ _ _ _ _ _ us hl => match us, hl with | [_, _], _ => rfl), n24, b24, _, _, _, _, _, _, 0, F, s24, rfl, by decide, c24, fun z => absurd rfl z⟩
theorem k25 (X : K.In h) (G : h.Ns mainGlobals mg) (c : He.SaysD fa fn K) : ∃ g fd, FnFact K mg T bs (tf.map (He.cT K)) 25 ⟨"_law_low", ["top", "bottom"], []⟩ g fd := by
  obtain ⟨fd, F⟩ := c.def_ 25 (d := d25) rfl
  exact ⟨_, fd, He.glo_ok X G (c.fact 25 (f := .glo "_law_low") rfl), bind_plain rfl (F.bindsN fun _ _ _ _ _ _ us hl => match us, hl with | [_, _], _ => rfl), n25, b25, _, _, _, _, _, _, 0, F, s25, rfl, by decide, c25, fun z => absurd rfl z⟩
theorem k26 (X : K.In h) (G : h.Ns mainGlobals mg) (c : He.SaysD fa fn K) : ∃ g fd, FnFact K mg T bs (tf.map (He.cT K)) 26 ⟨"_law_add", ["one", "two"], []⟩ g fd := by
  obtain ⟨fd, F⟩ := c.def_ 26 (d := d26) rfl
  exact ⟨_, fd, He.glo_ok X G (c.fact 26 (f := .glo "_law_add") rfl), bind_plain rfl (F.bindsN fun _ _ _ _ _ _ us hl => match us, hl with | [_, _], _ => rfl), n26, b26, _, _, _, _, _, _, 0, F, s26, rfl, by decide, c26, fun z => absurd rfl z⟩
theorem k27 (X : K.In h) (G : h.Ns mainGlobals mg) (c : He.SaysD fa fn K) : ∃ g fd, FnFact K mg T bs (tf.map (He.cT K)) 27 ⟨"_law_mul", ["one", "two"], []⟩ g fd := by
  obtain ⟨fd, F⟩ := c.def_ 27 (d := d27) rfl
  exact ⟨_, fd, He.glo_ok X G (c.fact 27 (f := .glo "_law_mul") rfl), bind_plain rfl (F.bindsN fun _ _ _ _ _ _ us hl => match us, hl with | [_, _], _ => rfl), n27, b27, _, _, _, _, _, _, 0, F, s27, rfl, by decide, c27, fun z => absurd rfl z⟩
theorem k28 (X : K.In h) (G : h.Ns mainGlobals mg) (c : He.SaysD fa fn K) : ∃ g fd, FnFact K mg T bs (tf.map (He.cT K)) 28 ⟨"_law_less", ["one", "two"], []⟩ g fd := by
  obtain ⟨fd, F⟩ := c.def_ 28 (d := d28) rfl
  exact ⟨_, fd, He.glo_ok X G (c.fact 28 (f := .glo "_law_less") rfl), bind_plain rfl (F.bindsN fun _ _ _ _ _ _ us hl => match us, hl with | [_, _], _ => rfl), n28, b28, _, _, _, _, _, _, 0, F, s28, rfl, by decide, c28, fun z => absurd rfl z⟩
theorem k29 (X : K.In h) (G : h.Ns mainGlobals mg) (c : He.SaysD fa fn K) : ∃ g fd, FnFact K mg T bs (tf.map (He.cT K)) 29 ⟨"_law_sum", ["row"], []⟩ g fd := by
  obtain ⟨fd, F⟩ := c.def_ 29 (d := d29) rfl
  exact ⟨_, fd, He.glo_ok X G (c.fact 29 (f := .glo "_law_sum") rfl), bind_plain rfl (F.bindsN fun _ _ _ _ _ _ us hl => match us, hl with | [_], _ => rfl), n29, b29, _, _, _, _, _, _, 0, F, s29, rfl, by decide, c29, fun z => absurd rfl z⟩
theorem k30 (X : K.In h) (G : h.Ns mainGlobals mg) (c : He.SaysD fa fn K) : ∃ g fd, FnFact K mg T bs (tf.map (He.cT K)) 30 ⟨"_law_under", ["one", "two"], []⟩ g fd := by
  obtain ⟨fd, F⟩ := c.def_ 30 (d := d30) rfl
  exact ⟨_, fd, He.glo_ok X G (c.fact 30 (f := .glo "_law_under") rfl), bind_plain rfl (F.bindsN fun _ _ _ _ _ _ us hl => match us, hl with | [_, _], _ => rfl), n30, b30, _, _, _, _, _, _, 0, F, s30, rfl, by decide, c30, fun z => absurd rfl z⟩
theorem k31 (X : K.In h) (G : h.Ns mainGlobals mg) (c : He.SaysD fa fn K) : ∃ g fd, FnFact K mg T bs (tf.map (He.cT K)) 31 ⟨"_law_row", ["n", "at", "many"], []⟩ g fd := by
  obtain ⟨fd, F⟩ := c.def_ 31 (d := d31) rfl
  exact ⟨_, fd, He.glo_ok X G (c.fact 31 (f := .glo "_law_row") rfl), bind_plain rfl (F.bindsN fun _ _ _ _ _ _ us hl => match us, hl with | [_, _, _], _ => rfl), n31, b31, _, _, _, _, _, _, 0, F, s31, rfl, by decide, c31, fun z => absurd rfl z⟩
theorem k32 (X : K.In h) (G : h.Ns mainGlobals mg) (c : He.SaysD fa fn K) : ∃ g fd, FnFact K mg T bs (tf.map (He.cT K)) 32 ⟨"_law_sums", ["row", "other"], []⟩ g fd := by
  obtain ⟨fd, F⟩ := c.def_ 32 (d := d32) rfl
  exact ⟨_, fd, He.glo_ok X G (c.fact 32 (f := .glo "_law_sums") rfl), bind_plain rfl (F.bindsN fun _ _ _ _ _ _ us hl => match us, hl with | [_, _], _ => rfl), n32, b32, _, _, _, _, _, _, 0, F, s32, rfl, by decide, c32, fun z => absurd rfl z⟩
theorem k33 (X : K.In h) (G : h.Ns mainGlobals mg) (c : He.SaysD fa fn K) : ∃ g fd, FnFact K mg T bs (tf.map (He.cT K)) 33 ⟨"_law_refuses", ["k", "row", "many"], []⟩ g fd := by
  obtain ⟨fd, F⟩ := c.def_ 33 (d := d33) rfl
  exact ⟨_, fd, He.glo_ok X G (c.fact 33 (f := .glo "_law_refuses") rfl), bind_plain rfl (F.bindsN fun _ _ _ _ _ _ us hl => match us, hl with | [_, _, _], _ => rfl), n33, b33, _, _, _, _, _, _, 0, F, s33, rfl, by decide, c33, fun z => absurd rfl z⟩
theorem k34 (X : K.In h) (G : h.Ns mainGlobals mg) (c : He.SaysD fa fn K) : ∃ g fd, FnFact K mg T bs (tf.map (He.cT K)) 34 ⟨"law", ["script"], []⟩ g fd := by
  obtain ⟨fd, F⟩ := c.def_ 34 (d := d34) rfl
  exact ⟨_, fd, He.glo_ok X G (c.fact 34 (f := .glo "law") rfl), bind_plain rfl (F.bindsN fun _ _ _ _ _ _ us hl => match us, hl with | [_], _ => rfl), n34, b34, _, _, _, _, _, _, 0, F, s34, rfl, by decide, c34, fun z => absurd rfl z⟩
theorem tab {P : Program} {w : World} (X : K.In h) (G : h.Ns mainGlobals mg) (c : He.SaysD fa fn K) (cx : ex K = true) : TabFact P w K mg T bs (tf.map (He.cT K)) (fun i => .ref (He.ga K ((T.exs[i]?).getD ""))) mt where
  fns := fun j f e => by
    match j, e with
    | 0, e => cases e; exact k0 X G c
    | 1, e => cases e; exact k1 X G c
    | 2, e => cases e; exact k2 X G c
    | 3, e => cases e; exact k3 X G c
    | 4, e => cases e; exact k4 X G c
    | 5, e => cases e; exact k5 X G c
    | 6, e => cases e; exact k6 X G c
    | 7, e => cases e; exact k7 X G c
    | 8, e => cases e; exact k8 X G c
    | 9, e => cases e; exact k9 X G c
    | 10, e => cases e; exact k10 X G c
    | 11, e => cases e; exact k11 X G c
    | 12, e => cases e; exact k12 X G c
    | 13, e => cases e; exact k13 X G c
    | 14, e => cases e; exact k14 X G c
    | 15, e => cases e; exact k15 X G c
    | 16, e => cases e; exact k16 X G c
    | 17, e => cases e; exact k17 X G c
    | 18, e => cases e; exact k18 X G c
    | 19, e => cases e; exact k19 X G c
    | 20, e => cases e; exact k20 X G c
    | 21, e => cases e; exact k21 X G c
    | 22, e => cases e; exact k22 X G c
    | 23, e => cases e; exact k23 X G c
    | 24, e => cases e; exact k24 X G c
    | 25, e => cases e; exact k25 X G c
    | 26, e => cases e; exact k26 X G c
    | 27, e => cases e; exact k27 X G c
    | 28, e => cases e; exact k28 X G c
    | 29, e => cases e; exact k29 X G c
    | 30, e => cases e; exact k30 X G c
    | 31, e => cases e; exact k31 X G c
    | 32, e => cases e; exact k32 X G c
    | 33, e => cases e; exact k33 X G c
    | 34, e => cases e; exact k34 X G c
    | n + 35, e => cases e
  gls := fun j x d e => by
    have cx := cx
    simp only [ex, Bool.and_eq_true] at cx
    match j, e with
    | 0, e => cases e; exact ⟨.ref (He.ga K "NOUGHT"), .ref (He.ga K "NOUGHT"), He.glo_ok X G (c.fact 72 (f := .glo "NOUGHT") rfl), rfl, fun S => gl_tup (He.tupB_ok cx.1 S) (by simp [RpA, Rp, He.Dv.v])⟩
    | 1, e => cases e; exact ⟨.ref (He.ga K "ONE"), .ref (He.ga K "ONE"), He.glo_ok X G (c.fact 73 (f := .glo "ONE") rfl), rfl, fun S => gl_tup (He.tupB_ok cx.2 S) (by simp [RpA, Rp, He.Dv.v])⟩
    | 2, e => cases e; exact (He.int_ok X G (c.fact 74 (f := .int "MOST" 12) rfl)).elim fun t e => ⟨.int 12, .int 12 t, e, by first | rfl | exact ⟨t, rfl⟩ | simp [RelV], fun S => by simp [Rp]⟩
    | n + 3, e => cases e
  bls := fun x hx => by
    simp only [List.mem_cons, List.not_mem_nil, or_false] at hx
    rcases hx with rfl | rfl | rfl | rfl | rfl | rfl | rfl | rfl | rfl | rfl | rfl | rfl | rfl
    · exact He.free_ok X G (c.fact 35 (f := .free "isinstance") rfl)
    · exact He.free_ok X G (c.fact 36 (f := .free "bool") rfl)
    · exact He.free_ok X G (c.fact 37 (f := .free "int") rfl)
    · exact He.free_ok X G (c.fact 38 (f := .free "abs") rfl)
    · exact He.free_ok X G (c.fact 39 (f := .free "len") rfl)
    · exact He.free_ok X G (c.fact 40 (f := .free "tuple") rfl)
    · exact He.free_ok X G (c.fact 41 (f := .free "all") rfl)
    · exact He.free_ok X G (c.fact 42 (f := .free "enumerate") rfl)
    · exact He.free_ok X G (c.fact 43 (f := .free "reversed") rfl)
    · exact He.free_ok X G (c.fact 44 (f := .free "min") rfl)
    · exact He.free_ok X G (c.fact 45 (f := .free "range") rfl)
    · exact He.free_ok X G (c.fact 46 (f := .free "sorted") rfl)
    · exact He.free_ok X G (c.fact 47 (f := .free "sum") rfl)
  exs := fun i y e => by
    match i, e with
    | 0, e => cases e; exact ⟨_, rfl, He.glo_ok X G (c.fact 48 (f := .glo "ChanceError") rfl), He.exc_ok (c.fact 52 (f := .exc "ChanceError") rfl)⟩
    | 1, e => cases e; exact ⟨_, rfl, He.glo_ok X G (c.fact 49 (f := .glo "BadRatio") rfl), He.exc_ok (c.fact 53 (f := .exc "BadRatio") rfl)⟩
    | 2, e => cases e; exact ⟨_, rfl, He.glo_ok X G (c.fact 50 (f := .glo "BadNumber") rfl), He.exc_ok (c.fact 54 (f := .exc "BadNumber") rfl)⟩
    | 3, e => cases e; exact ⟨_, rfl, He.glo_ok X G (c.fact 51 (f := .glo "BadRow") rfl), He.exc_ok (c.fact 55 (f := .exc "BadRow") rfl)⟩
    | n + 4, e => cases e
  exm := fun i i2 b e => by
    match i, i2, e with
    | 0, 0, e => cases e; exact He.exm_ok (c.fact 56 (f := .exm "ChanceError" "ChanceError" true) rfl)
    | 0, 1, e => cases e; exact He.exm_ok (c.fact 57 (f := .exm "ChanceError" "BadRatio" false) rfl)
    | 0, 2, e => cases e; exact He.exm_ok (c.fact 58 (f := .exm "ChanceError" "BadNumber" false) rfl)
    | 0, 3, e => cases e; exact He.exm_ok (c.fact 59 (f := .exm "ChanceError" "BadRow" false) rfl)
    | 1, 0, e => cases e; exact He.exm_ok (c.fact 60 (f := .exm "BadRatio" "ChanceError" true) rfl)
    | 1, 1, e => cases e; exact He.exm_ok (c.fact 61 (f := .exm "BadRatio" "BadRatio" true) rfl)
    | 1, 2, e => cases e; exact He.exm_ok (c.fact 62 (f := .exm "BadRatio" "BadNumber" false) rfl)
    | 1, 3, e => cases e; exact He.exm_ok (c.fact 63 (f := .exm "BadRatio" "BadRow" false) rfl)
    | 2, 0, e => cases e; exact He.exm_ok (c.fact 64 (f := .exm "BadNumber" "ChanceError" true) rfl)
    | 2, 1, e => cases e; exact He.exm_ok (c.fact 65 (f := .exm "BadNumber" "BadRatio" false) rfl)
    | 2, 2, e => cases e; exact He.exm_ok (c.fact 66 (f := .exm "BadNumber" "BadNumber" true) rfl)
    | 2, 3, e => cases e; exact He.exm_ok (c.fact 67 (f := .exm "BadNumber" "BadRow" false) rfl)
    | 3, 0, e => cases e; exact He.exm_ok (c.fact 68 (f := .exm "BadRow" "ChanceError" true) rfl)
    | 3, 1, e => cases e; exact He.exm_ok (c.fact 69 (f := .exm "BadRow" "BadRatio" false) rfl)
    | 3, 2, e => cases e; exact He.exm_ok (c.fact 70 (f := .exm "BadRow" "BadNumber" false) rfl)
    | 3, 3, e => cases e; exact He.exm_ok (c.fact 71 (f := .exm "BadRow" "BadRow" true) rfl)
    | 0, n + 4, e => cases e
    | 1, n + 4, e => cases e
    | 2, n + 4, e => cases e
    | 3, n + 4, e => cases e
    | n + 4, _, e => cases e
end
abbrev depth : Nat := 14
abbrev lawAt : Nat := 34
theorem h_is_whole : Q.Has T bs 0 2 (Q.wholeIR) 2 [.none] := ⟨rfl, _, rfl, rfl, rfl⟩
theorem h_common : Q.Has T bs 1 2 (Q.commonIR) 2 [] := ⟨rfl, _, rfl, rfl, rfl⟩
theorem h_ratio : Q.Has T bs 2 3 (Q.ratioIR 0 1 1) 2 [.int 1] := ⟨rfl, _, rfl, rfl, rfl⟩
theorem h_is_ratio : Q.Has T bs 3 1 (Q.isrIR 0 1) 1 [] := ⟨rfl, _, rfl, rfl, rfl⟩
theorem h_add : Q.Has T bs 4 2 (Q.addIR 2) 2 [] := ⟨rfl, _, rfl, rfl, rfl⟩
theorem h_less : Q.Has T bs 5 2 (Q.lessIR 2) 2 [] := ⟨rfl, _, rfl, rfl, rfl⟩
theorem h_times : Q.Has T bs 6 2 (Q.timesIR 2) 2 [] := ⟨rfl, _, rfl, rfl, rfl⟩
theorem h_over : Q.Has T bs 7 2 (Q.overIR 2 1) 2 [] := ⟨rfl, _, rfl, rfl, rfl⟩
theorem h_total : Q.Has T bs 8 3 (Q.sumIR (.glob 0 (.tuple [.int 0, .int 1])) 4) 1 [] := ⟨rfl, _, rfl, rfl, rfl⟩
theorem h_law_low : Q.Has T bs 25 4 (Q.lowIR) 2 [] := ⟨rfl, _, rfl, rfl, rfl⟩
theorem h_law_add : Q.Has T bs 26 2 (Q.addIR 25) 2 [] := ⟨rfl, _, rfl, rfl, rfl⟩
theorem h_law_less : Q.Has T bs 28 2 (Q.lessIR 25) 2 [] := ⟨rfl, _, rfl, rfl, rfl⟩
theorem h_law_mul : Q.Has T bs 27 2 (Q.timesIR 25) 2 [] := ⟨rfl, _, rfl, rfl, rfl⟩
theorem h_law_sum : Q.Has T bs 29 3 (Q.sumIR (.tup (.econs (.int 0) (.econs (.int 1) (.enil)))) 26) 1 [] := ⟨rfl, _, rfl, rfl, rfl⟩
theorem h_law_under : Q.Has T bs 30 2 (Q.underIR) 2 [] := ⟨rfl, _, rfl, rfl, rfl⟩
noncomputable def tr : Tr := (.node (.node (.node (.node (.node (.node .nil 0 Q.ovWhole 2 b0 2 [.none] .nil) 1 (fun _ => none) 2 b1 2 [] .nil) 2 Q.ovLow 3 b2 2 [.int 1] (.node .nil 3 Q.ovIsr 1 b3 1 [] .nil)) 4 Q.ovAdd 2 b4 2 [] (.node (.node .nil 5 Q.ovLess 2 b5 2 [] .nil) 6 Q.ovTimes 2 b6 2 [] (.node .nil 7 Q.ovOver 2 b7 2 [] .nil))) 8 Q.ovSum 3 b8 1 [] (.node (.node (.node (.node .nil 9 (fun _ => none) 2 b9 2 [] .nil) 10 (fun _ => none) 2 b10 1 [] .nil) 11 (fun _ => none) 1 b11 1 [] (.node .nil 12 (fun _ => none) 3 b12 1 [] .nil)) 13 (fun _ => none) 4 b13 2 [] (.node (.node .nil 14 (fun _ => none) 8 b14 3 [] .nil) 15 (fun _ => none) 5 b15 3 [] (.node .nil 16 (fun _ => none) 2 b16 2 [] .nil)))) 17 (fun _ => none) 3 b17 2 [] (.node (.node (.node (.node (.node .nil 18 (fun _ => none) 2 b18 1 [] .nil) 19 (fun _ => none) 8 b19 1 [] .nil) 20 (fun _ => none) 4 b20 2 [] (.node .nil 21 (fun _ => none) 5 b21 1 [] .nil)) 22 (fun _ => none) 3 b22 2 [] (.node (.node .nil 23 (fun _ => none) 2 b23 2 [] .nil) 24 (fun _ => none) 6 b24 2 [] (.node .nil 25 Q.ovLow 4 b25 2 [] .nil))) 26 Q.ovAdd 2 b26 2 [] (.node (.node (.node (.node .nil 27 Q.ovTimes 2 b27 2 [] .nil) 28 Q.ovLess 2 b28 2 [] .nil) 29 Q.ovSum 3 b29 1 [] (.node .nil 30 Q.ovUnder 2 b30 2 [] .nil)) 31 (fun _ => none) 7 b31 3 [] (.node (.node .nil 32 (fun _ => none) 5 b32 2 [] .nil) 33 (fun _ => none) 3 b33 3 [] (.node .nil 34 (fun _ => none) 19 b34 1 [] .nil)))))
theorem tr_ok : TrOk T bs mt 5 tr := ⟨⟨rfl, ⟨_, rfl, rfl, rfl⟩, fun _ _ _ _ _ h => by cases h⟩, ⟨⟨rfl, ⟨_, rfl, rfl, rfl⟩, Q.ov_sum (fun _ _ => by simp only [ev]) (Q.lowAt1 h_is_whole h_common h_ratio) h_add h_total⟩, ⟨⟨rfl, ⟨_, rfl, rfl, rfl⟩, Q.ov_add (Q.lowAt1 h_is_whole h_common h_ratio) h_add⟩, ⟨⟨rfl, ⟨_, rfl, rfl, rfl⟩, Q.ov_ratio h_is_whole h_common h_ratio⟩, ⟨⟨rfl, ⟨_, rfl, rfl, rfl⟩, fun _ _ _ _ _ h => by cases h⟩, ⟨⟨rfl, ⟨_, rfl, rfl, rfl⟩, Q.ov_whole h_is_whole⟩, trivial, trivial⟩, trivial⟩, ⟨⟨rfl, ⟨_, rfl, rfl, rfl⟩, Q.ov_isr h_is_whole h_common h_is_ratio⟩, trivial, trivial⟩⟩, ⟨⟨rfl, ⟨_, rfl, rfl, rfl⟩, Q.ov_times (Q.lowAt1 h_is_whole h_common h_ratio) h_times⟩, ⟨⟨rfl, ⟨_, rfl, rfl, rfl⟩, Q.ov_less (Q.lowAt1 h_is_whole h_common h_ratio) h_less⟩, trivial, trivial⟩, ⟨⟨rfl, ⟨_, rfl, rfl, rfl⟩, Q.ov_over (Q.lowAt1 h_is_whole h_common h_ratio) h_over⟩, trivial, trivial⟩⟩⟩, ⟨⟨rfl, ⟨_, rfl, rfl, rfl⟩, fun _ _ _ _ _ h => by cases h⟩, ⟨⟨rfl, ⟨_, rfl, rfl, rfl⟩, fun _ _ _ _ _ h => by cases h⟩, ⟨⟨rfl, ⟨_, rfl, rfl, rfl⟩, fun _ _ _ _ _ h => by cases h⟩, ⟨⟨rfl, ⟨_, rfl, rfl, rfl⟩, fun _ _ _ _ _ h => by cases h⟩, trivial, trivial⟩, trivial⟩, ⟨⟨rfl, ⟨_, rfl, rfl, rfl⟩, fun _ _ _ _ _ h => by cases h⟩, trivial, trivial⟩⟩, ⟨⟨rfl, ⟨_, rfl, rfl, rfl⟩, fun _ _ _ _ _ h => by cases h⟩, ⟨⟨rfl, ⟨_, rfl, rfl, rfl⟩, fun _ _ _ _ _ h => by cases h⟩, trivial, trivial⟩, ⟨⟨rfl, ⟨_, rfl, rfl, rfl⟩, fun _ _ _ _ _ h => by cases h⟩, trivial, trivial⟩⟩⟩⟩, ⟨⟨rfl, ⟨_, rfl, rfl, rfl⟩, Q.ov_add (Q.lowAt2 h_law_low) h_law_add⟩, ⟨⟨rfl, ⟨_, rfl, rfl, rfl⟩, fun _ _ _ _ _ h => by cases h⟩, ⟨⟨rfl, ⟨_, rfl, rfl, rfl⟩, fun _ _ _ _ _ h => by cases h⟩, ⟨⟨rfl, ⟨_, rfl, rfl, rfl⟩, fun _ _ _ _ _ h => by cases h⟩, ⟨⟨rfl, ⟨_, rfl, rfl, rfl⟩, fun _ _ _ _ _ h => by cases h⟩, trivial, trivial⟩, trivial⟩, ⟨⟨rfl, ⟨_, rfl, rfl, rfl⟩, fun _ _ _ _ _ h => by cases h⟩, trivial, trivial⟩⟩, ⟨⟨rfl, ⟨_, rfl, rfl, rfl⟩, fun _ _ _ _ _ h => by cases h⟩, ⟨⟨rfl, ⟨_, rfl, rfl, rfl⟩, fun _ _ _ _ _ h => by cases h⟩, trivial, trivial⟩, ⟨⟨rfl, ⟨_, rfl, rfl, rfl⟩, Q.ov_low h_law_low⟩, trivial, trivial⟩⟩⟩, ⟨⟨rfl, ⟨_, rfl, rfl, rfl⟩, fun _ _ _ _ _ h => by cases h⟩, ⟨⟨rfl, ⟨_, rfl, rfl, rfl⟩, Q.ov_sum (fun _ _ => rfl) (Q.lowAt2 h_law_low) h_law_add h_law_sum⟩, ⟨⟨rfl, ⟨_, rfl, rfl, rfl⟩, Q.ov_less (Q.lowAt2 h_law_low) h_law_less⟩, ⟨⟨rfl, ⟨_, rfl, rfl, rfl⟩, Q.ov_times (Q.lowAt2 h_law_low) h_law_mul⟩, trivial, trivial⟩, trivial⟩, ⟨⟨rfl, ⟨_, rfl, rfl, rfl⟩, Q.ov_under h_law_under⟩, trivial, trivial⟩⟩, ⟨⟨rfl, ⟨_, rfl, rfl, rfl⟩, fun _ _ _ _ _ h => by cases h⟩, ⟨⟨rfl, ⟨_, rfl, rfl, rfl⟩, fun _ _ _ _ _ h => by cases h⟩, trivial, trivial⟩, ⟨⟨rfl, ⟨_, rfl, rfl, rfl⟩, fun _ _ _ _ _ h => by cases h⟩, trivial, trivial⟩⟩⟩⟩⟩
end K20
namespace K20
open PySem PySem.Spec PyProof.Rows L2 DL DL.TC
theorem w_ratio : At2 T bs mt 2 2 eN eN eF lowC := at_low (Q.lowAt1 h_is_whole h_common h_ratio)
theorem w_ratioZ : At2 T bs mt 2 2 eI eN eZ lowCZ := at_lowZ (Q.lowAt1 h_is_whole h_common h_ratio)
theorem w_ratio1 : At1 T bs mt 2 2 eN eF rat1 := at_ratio1 (Q.lowAt1 h_is_whole h_common h_ratio) h_ratio
theorem w_is_whole : At1 T bs mt 1 0 eN eB who1 := at_whole h_is_whole
theorem w_is_wholeI : At1 T bs mt 1 0 eI eB who1I := at_wholeI h_is_whole
theorem w_is_whole2 : At2 T bs mt 1 0 eN eN eB who2 := at_whole2 h_is_whole
theorem w_common : At2 T bs mt 1 1 eN eN eN comC := at_common h_common
theorem w_add : At2 T bs mt 3 4 eF eF eF addF := at_add (Q.lowAt1 h_is_whole h_common h_ratio) h_add
theorem w_addZ : At2 T bs mt 3 4 eZ eZ eZ addZ := at_addZ (Q.lowAt1 h_is_whole h_common h_ratio) h_add
theorem w_less : At2 T bs mt 3 5 eF eF eF lessF := at_less (Q.lowAt1 h_is_whole h_common h_ratio) h_less
theorem w_lessZ : At2 T bs mt 3 5 eZ eZ eZ lessZ := at_lessZ (Q.lowAt1 h_is_whole h_common h_ratio) h_less
theorem w_times : At2 T bs mt 3 6 eF eF eF mulF := at_mul (Q.lowAt1 h_is_whole h_common h_ratio) h_times
theorem w_timesZ : At2 T bs mt 3 6 eZ eZ eZ mulZ := at_mulZ (Q.lowAt1 h_is_whole h_common h_ratio) h_times
theorem w_over : At2 T bs mt 3 7 eF eF eF overF := at_over (Q.lowAt1 h_is_whole h_common h_ratio) h_over
theorem w_overZ : At2 T bs mt 3 7 eZ eZ eZ overZ := at_overZ (Q.lowAt1 h_is_whole h_common h_ratio) h_over
theorem w_is_ratio : At1 T bs mt 3 3 eF eB isrF := at_isr h_is_whole h_common h_is_ratio
theorem w_totalT : At1 T bs mt 4 8 (eT eF) eF totF := at_sum (z := ((0, 1) : Nat × Nat)) (kn_pu pu_F) (fun _ _ => by simp only [ev]; rfl) w_add h_total (fun _ => rfl)
theorem w_totalL : At1 T bs mt 4 8 (eL eF) eF totF := at_sum (z := ((0, 1) : Nat × Nat)) (kn_pu pu_F) (fun _ _ => by simp only [ev]; rfl) w_add h_total (fun _ => rfl)
theorem w_totalZT : At1 T bs mt 4 8 (eT eZ) eZ totZ := at_sum (z := ((0, 1) : Int × Nat)) (kn_pu pu_Z) (fun _ _ => by simp only [ev]; rfl) w_addZ h_total (fun _ => rfl)
theorem w_totalZL : At1 T bs mt 4 8 (eL eZ) eZ totZ := at_sum (z := ((0, 1) : Int × Nat)) (kn_pu pu_Z) (fun _ _ => by simp only [ev]; rfl) w_addZ h_total (fun _ => rfl)
theorem w_law_low : At2 T bs mt 2 25 eN eN eF lowC := at_low (Q.lowAt2 h_law_low)
theorem w_law_lowZ : At2 T bs mt 2 25 eI eN eZ lowCZ := at_lowZ (Q.lowAt2 h_law_low)
theorem w_law_add : At2 T bs mt 3 26 eF eF eF addF := at_add (Q.lowAt2 h_law_low) h_law_add
theorem w_law_addZ : At2 T bs mt 3 26 eZ eZ eZ addZ := at_addZ (Q.lowAt2 h_law_low) h_law_add
theorem w_law_less : At2 T bs mt 3 28 eF eF eF lessF := at_less (Q.lowAt2 h_law_low) h_law_less
theorem w_law_lessZ : At2 T bs mt 3 28 eZ eZ eZ lessZ := at_lessZ (Q.lowAt2 h_law_low) h_law_less
theorem w_law_mul : At2 T bs mt 3 27 eF eF eF mulF := at_mul (Q.lowAt2 h_law_low) h_law_mul
theorem w_law_mulZ : At2 T bs mt 3 27 eZ eZ eZ mulZ := at_mulZ (Q.lowAt2 h_law_low) h_law_mul
theorem w_law_sumT : At1 T bs mt 4 29 (eT eF) eF totF := at_sum (z := ((0, 1) : Nat × Nat)) (kn_pu pu_F) (fun _ _ => rfl) w_law_add h_law_sum (fun _ => rfl)
theorem w_law_sumL : At1 T bs mt 4 29 (eL eF) eF totF := at_sum (z := ((0, 1) : Nat × Nat)) (kn_pu pu_F) (fun _ _ => rfl) w_law_add h_law_sum (fun _ => rfl)
theorem w_law_sumZT : At1 T bs mt 4 29 (eT eZ) eZ totZ := at_sum (z := ((0, 1) : Int × Nat)) (kn_pu pu_Z) (fun _ _ => rfl) w_law_addZ h_law_sum (fun _ => rfl)
theorem w_law_sumZL : At1 T bs mt 4 29 (eL eZ) eZ totZ := at_sum (z := ((0, 1) : Int × Nat)) (kn_pu pu_Z) (fun _ _ => rfl) w_law_addZ h_law_sum (fun _ => rfl)
theorem w_law_under : At2 T bs mt 3 30 eF eF eB underF := at_under h_law_under
theorem w_law_underZ : At2 T bs mt 3 30 eZ eZ eB underZ := at_underZ h_law_under
/-- _law_row -/
noncomputable def f31 (a1 : Unit) (a2 : Nat) (a3 : Nat) : C (List (Nat × Nat)) := fun kr =>
  G (Nat.blt a3 4611686018427387904) <| lcA (fun (x6 : Nat) => (fun k => drawC 30 (Nat.add a2 x6) (4 : Nat) fun v8 => TC.V v8 k)) (upto a3 0) 0 fun v9 => TC.V v9 fun v4 =>  TC.V (sumN v4) fun v10 =>  TC.V (Nat.beq v10 (0 : Nat)) fun x => cB x (subN a3 (1 : Nat) fun v12 => repT (((0 : Nat), (1 : Nat)) :: ([] : List (Nat × Nat))) v12 fun v13 => catC (((1 : Nat), (1 : Nat)) :: ([] : List (Nat × Nat))) v13 fun v14 => TC.V v14 kr) (lcA (fun (x15 : Nat) => (fun k => lowC x15 v10 fun v16 => TC.V v16 k)) v4 0 fun v17 => TC.V v17 kr)
theorem y31 : Q.Has T bs 31 7 b31 3 [] := ⟨rfl, _, rfl, rfl, rfl⟩
theorem o31 (ds : List Int) (hds : ds.length = 30) : At3 T bs mt 3 31 (eW ds) eN eN (eT (eP eN eN)) f31 := at3 y31 fun d hd a1 a2 a3 kr => by
  have hC := monoC (T := T) (bs := bs) (mt := mt) d
  have hQ := clo_Rt (er := (eT (eP eN eN))) (kn_pu (pu_T (pu_P pu_N pu_N))) (k := kr)
  refine J_cast (σ := [.sh ((eW ds) a1), .sh (eN a2), .sh (eN a3), .un, .un, .un, .un]) rfl ?_
  unfold b31 f31
  refine J_setz (ρ := [.sh ((eW ds) a1), .sh (eN a2), .sh (eN a3), .un, .un, .un, .un]) (i := 6) (fz := []) (ma := (fun k => G (Nat.blt a3 4611686018427387904) <| lcA (fun (x6 : Nat) => (fun k => drawC 30 (Nat.add a2 x6) (4 : Nat) fun v8 => TC.V v8 k)) (upto a3 0) 0 fun v9 => TC.V v9 k)) (ea := (eL eN)) (E_conv (E_lca (own := [3]) (tg := (.one 3)) (ex := eN) (ey := eN) (E := fun x6 => [.sh ((eW ds) a1), .sh (eN a2), .sh (eN a3), .sh (eN x6), .un, .un, .un]) (E_ir1 (E_var (i := 2) (ea := eN) (x := a3) rfl)) (fun _ => rfl) (fun x6 => (E_drawn (i := 0) (ds := ds) rfl hds (E_bin op_addN (E_var (i := 1) (ea := eN) (x := a2) rfl) (E_var (i := 3) (ea := eN) (x := x6) rfl)) (E_num 4)))) (by with_reducible rfl)) (fun v4 => (J_cast (σ := [.sh ((eW ds) a1), .sh (eN a2), .sh (eN a3), .un, .un, .un, .sh ((eL eN) v4)]) rfl ?_))
  refine J_setz (ρ := [.sh ((eW ds) a1), .sh (eN a2), .sh (eN a3), .un, .un, .un, .sh ((eL eN) v4)]) (i := 5) (fz := []) (ma := (TC.V (sumN v4))) (ea := eN) (E_conv (E_blt1 bl_sumL (E_var (i := 6) (ea := (eL eN)) (x := v4) rfl)) (by with_reducible rfl)) (fun v10 => (J_cast (σ := [.sh ((eW ds) a1), .sh (eN a2), .sh (eN a3), .un, .un, .sh (eN v10), .sh ((eL eN) v4)]) rfl ?_))
  refine J_if1 (ρ := [.sh ((eW ds) a1), .sh (eN a2), .sh (eN a3), .un, .un, .sh (eN v10), .sh ((eL eN) v4)]) (ma := (TC.V (Nat.beq v10 (0 : Nat)))) tru_B (E_conv (E_cmp (cm_eq eb_N (by decide)) (E_var (i := 5) (ea := eN) (x := v10) rfl) (E_num 0)) (by with_reducible rfl)) ?_ ?_
  ·
    exact J_ret (ρ := [.sh ((eW ds) a1), .sh (eN a2), .sh (eN a3), .un, .un, .sh (eN v10), .sh ((eL eN) v4)]) (kr := kr) (Q := Rt (eT (eP eN eN)) kr) (ma := (fun k => subN a3 (1 : Nat) fun v12 => repT (((0 : Nat), (1 : Nat)) :: ([] : List (Nat × Nat))) v12 fun v13 => catC (((1 : Nat), (1 : Nat)) :: ([] : List (Nat × Nat))) v13 fun v14 => TC.V v14 k)) (ea := (eT (eP eN eN))) (E_conv (E_bin (ec := (eT (eP eN eN))) op_catT (E_tup (E_cons (E_tup (E_es2 (E_num 1) (E_num 1))) (E_nil (ea := (eP eN eN))))) (E_bin (ec := (eT (eP eN eN))) op_repT (E_tup (E_cons (E_tup (E_es2 (E_num 0) (E_num 1))) (E_nil (ea := (eP eN eN))))) (E_bin op_subN (E_var (i := 2) (ea := eN) (x := a3) rfl) (E_num 1)))) (by with_reducible rfl)) (fun x h => ⟨x, rfl, h⟩)
  ·
    exact J_ret (ρ := [.sh ((eW ds) a1), .sh (eN a2), .sh (eN a3), .un, .un, .sh (eN v10), .sh ((eL eN) v4)]) (kr := kr) (Q := Rt (eT (eP eN eN)) kr) (ma := (fun k => lcA (fun (x15 : Nat) => (fun k => lowC x15 v10 fun v16 => TC.V v16 k)) v4 0 fun v17 => TC.V v17 k)) (ea := (eT (eP eN eN))) (E_conv (E_blt1 bl_tupL (E_lca (own := [4]) (tg := (.one 4)) (ex := eN) (ey := (eP eN eN)) (E := fun x15 => [.sh ((eW ds) a1), .sh (eN a2), .sh (eN a3), .un, .sh (eN x15), .sh (eN v10), .sh ((eL eN) v4)]) (E_iseqL (ea := eN) (E_var (i := 6) (ea := (eL eN)) (x := v4) rfl)) (fun _ => rfl) (fun x15 => (E_call2 (f := lowC) (ee := (eP eN eN)) (w_law_low d (Nat.le_trans (by decide) hd)) (E_var (i := 4) (ea := eN) (x := x15) rfl) (E_var (i := 5) (ea := eN) (x := v10) rfl))))) (by with_reducible rfl)) (fun x h => ⟨x, rfl, h⟩)
/-- _law_sums -/
noncomputable def f32 (a1 : (List (Nat × Nat))) (a2 : (List (Nat × Nat))) : C (List (Nat × Nat)) := fun kr =>
  subN (Nat.add (TC.lenN a1) (TC.lenN a2)) (1 : Nat) fun v3 => G (Nat.blt v3 4611686018427387904) <| lcA (fun (x8 : Nat) => (TC.V ((0 : Nat), (1 : Nat)))) (upto v3 0) 0 fun v9 => TC.V v9 fun v10 => G (Nat.blt (TC.lenN a1) 4611686018427387904) <| TC.V (upto (TC.lenN a1) 0) fun xs => forC (S := (List (Nat × Nat))) (fun (x15 : Nat) s13 j14 => G (Nat.blt (TC.lenN a2) 4611686018427387904) <| TC.V (upto (TC.lenN a2) 0) fun xs => forC (S := (List (Nat × Nat))) (fun (x20 : Nat) s18 j19 => subL s18 (Nat.add x15 x20) fun v21 => subL a1 x15 fun v23 => subL a2 x20 fun v24 => mulF v23 v24 fun v25 => addF v21 v25 fun v26 => TC.V v26 fun x =>  TC.V (Nat.add x15 x20) fun n => setC n s18 x fun v28 => j19 v28) xs s13 fun s18 => j14 s18) xs v10 fun s13 =>  TC.V s13 kr
theorem y32 : Q.Has T bs 32 5 b32 2 [] := ⟨rfl, _, rfl, rfl, rfl⟩
theorem o32 : At2 T bs mt 4 32 (eL (eP eN eN)) (eT (eP eN eN)) (eL (eP eN eN)) f32 := at2 y32 fun d hd a1 a2 kr => by
  have hC := monoC (T := T) (bs := bs) (mt := mt) d
  have hQ := clo_Rt (er := (eL (eP eN eN))) (kn_L (kn_pu (pu_P pu_N pu_N))) (k := kr)
  refine J_cast (σ := [.sh ((eL (eP eN eN)) a1), .sh ((eT (eP eN eN)) a2), .un, .un, .un]) rfl ?_
  unfold b32 f32
  refine J_setf (ρ := [.sh ((eL (eP eN eN)) a1), .sh ((eT (eP eN eN)) a2), .un, .un, .un]) (i := 4) (ml := (fun k => subN (Nat.add (TC.lenN a1) (TC.lenN a2)) (1 : Nat) fun v3 => G (Nat.blt v3 4611686018427387904) <| lcA (fun (x8 : Nat) => (TC.V ((0 : Nat), (1 : Nat)))) (upto v3 0) 0 fun v9 => TC.V v9 k)) (ea := (eP eN eN)) rfl (E_conv (E_lca (own := [3]) (tg := (.one 3)) (ex := eN) (ey := (eP eN eN)) (E := fun x8 => [.sh ((eL (eP eN eN)) a1), .sh ((eT (eP eN eN)) a2), .un, .sh (eN x8), .un]) (E_ir1 (E_bin op_subN (E_bin op_addN (E_blt1 bl_lenL (E_var (i := 0) (ea := (eL (eP eN eN))) (x := a1) rfl)) (E_blt1 bl_lenT (E_var (i := 1) (ea := (eT (eP eN eN))) (x := a2) rfl))) (E_num 1))) (fun _ => rfl) (fun x8 => (E_tup (E_es2 (E_num 0) (E_num 1))))) (by with_reducible rfl)) (pu_P pu_N pu_N) (fun v10 => (J_cast (σ := [.sh ((eL (eP eN eN)) a1), .sh ((eT (eP eN eN)) a2), .un, .un, oP (eP eN eN) v10]) rfl ?_))
  refine J_for (ρ := [.sh ((eL (eP eN eN)) a1), .sh ((eT (eP eN eN)) a2), .un, .un, oP (eP eN eN) v10]) (t := (.one 3)) (fz := []) (S := (List (Nat × Nat))) (X := Nat) (ex := eN) (E := fun s13 => [.sh ((eL (eP eN eN)) a1), .sh ((eT (eP eN eN)) a2), .un, .un, oP (eP eN eN) s13]) (Eb := fun x15 s13 => [.sh ((eL (eP eN eN)) a1), .sh ((eT (eP eN eN)) a2), .un, .sh (eN x15), oP (eP eN eN) s13]) (s0 := v10) (mx := (fun k => G (Nat.blt (TC.lenN a1) 4611686018427387904) <| TC.V (upto (TC.lenN a1) 0) k)) hC mono_c hQ (E_conv (E_ir1 (E_blt1 bl_lenL (E_var (i := 0) (ea := (eL (eP eN eN))) (x := a1) rfl))) (by with_reducible rfl)) (fk_msk (m := [false, false, false, false, false]) rfl) (fun _ _ => rfl) (fun x15 s13 j14 => ?_) (fun s13 => ?_)
  ·
    refine J_for (ρ := [.sh ((eL (eP eN eN)) a1), .sh ((eT (eP eN eN)) a2), .un, .sh (eN x15), oP (eP eN eN) s13]) (t := (.one 2)) (fz := []) (S := (List (Nat × Nat))) (X := Nat) (ex := eN) (E := fun s18 => [.sh ((eL (eP eN eN)) a1), .sh ((eT (eP eN eN)) a2), .un, .sh (eN x15), oP (eP eN eN) s18]) (Eb := fun x20 s18 => [.sh ((eL (eP eN eN)) a1), .sh ((eT (eP eN eN)) a2), .sh (eN x20), .sh (eN x15), oP (eP eN eN) s18]) (s0 := s13) (mx := (fun k => G (Nat.blt (TC.lenN a2) 4611686018427387904) <| TC.V (upto (TC.lenN a2) 0) k)) hC mono_Nx hQ (E_conv (E_ir1 (E_blt1 bl_lenT (E_var (i := 1) (ea := (eT (eP eN eN))) (x := a2) rfl))) (by with_reducible rfl)) (fk_msk (m := [false, false, false, false, false]) rfl) (fun _ _ => rfl) (fun x20 s18 j19 => ?_) (fun s18 => ?_)
    ·
      refine J_sto (ρ := [.sh ((eL (eP eN eN)) a1), .sh ((eT (eP eN eN)) a2), .sh (eN x20), .sh (eN x15), oP (eP eN eN) s18]) (i := 4) (ma := (fun k => subL s18 (Nat.add x15 x20) fun v21 => subL a1 x15 fun v23 => subL a2 x20 fun v24 => mulF v23 v24 fun v25 => addF v21 v25 fun v26 => TC.V v26 k)) (mi := (TC.V (Nat.add x15 x20))) (ea := (eP eN eN)) (xs := s18) rfl (E_conv (E_call2 (f := addF) (ee := (eP eN eN)) (w_law_add d (Nat.le_trans (by decide) hd)) (E_sub (ec := (eP eN eN)) sb_L (E_var (i := 4) (ea := (eL (eP eN eN))) (x := s18) rfl) (E_bin op_addN (E_var (i := 3) (ea := eN) (x := x15) rfl) (E_var (i := 2) (ea := eN) (x := x20) rfl))) (E_call2 (f := mulF) (ee := (eP eN eN)) (w_law_mul d (Nat.le_trans (by decide) hd)) (E_sub (ec := (eP eN eN)) sb_L (E_var (i := 0) (ea := (eL (eP eN eN))) (x := a1) rfl) (E_var (i := 3) (ea := eN) (x := x15) rfl)) (E_sub (ec := (eP eN eN)) sb_T (E_var (i := 1) (ea := (eT (eP eN eN))) (x := a2) rfl) (E_var (i := 2) (ea := eN) (x := x20) rfl)))) (by with_reducible rfl)) (E_conv (E_bin op_addN (E_var (i := 3) (ea := eN) (x := x15) rfl) (E_var (i := 2) (ea := eN) (x := x20) rfl)) (by with_reducible rfl)) (pu_P pu_N pu_N) (fun v28 => (J_cast (σ := [.sh ((eL (eP eN eN)) a1), .sh ((eT (eP eN eN)) a2), .sh (eN x20), .sh (eN x15), oP (eP eN eN) v28]) rfl ?_))
      exact J_done (fun h => ⟨v28, fk_msk (m := [false, false, true, false, false]) rfl, h⟩)
    ·
      exact J_done (fun h => ⟨s18, fk_msk (m := [false, false, false, true, false]) rfl, h⟩)
  ·
    exact J_ret (ρ := [.sh ((eL (eP eN eN)) a1), .sh ((eT (eP eN eN)) a2), .un, .un, oP (eP eN eN) s13]) (kr := kr) (Q := Rt (eL (eP eN eN)) kr) (ma := (TC.V s13)) (ea := (eL (eP eN eN))) (E_conv (E_var (i := 4) (ea := (eL (eP eN eN))) (x := s13) rfl) (by with_reducible rfl)) (fun x h => ⟨x, rfl, h⟩)
/-- is_row -/
noncomputable def f10 (a1 : (List (Nat × Nat))) : C Bool := fun kr =>
  orC (nB true) (fun k => andC (Nat.ble (1 : Nat) (TC.lenN a1)) (fun k =>  k (Nat.ble (TC.lenN a1) (12 : Nat))) fun v7 => orC (nB v7) (fun k => allC (fun (x2 : (Nat × Nat)) => (fun k => isrF x2 fun v3 => TC.V v3 k)) a1 fun v4 => TC.V (nB v4) k) fun v8 => TC.V v8 k) fun v9 => TC.V v9 fun x => cB x ( TC.V false kr) (allC (fun (x11 : (Nat × Nat)) => (TC.V (Nat.ble (0 : Nat) x11.1))) a1 fun v12 => andC v12 (fun k => totF a1 fun v10 => TC.V ((eqPr Nat.beq Nat.beq) v10 (1, 1)) k) fun v13 => TC.V v13 kr)
theorem y10 : Q.Has T bs 10 2 b10 1 [] := ⟨rfl, _, rfl, rfl, rfl⟩
theorem o10 : At1 T bs mt 5 10 (eT (eP eN eN)) eB f10 := at1 y10 fun d hd a1 kr => by
  have hC := monoC (T := T) (bs := bs) (mt := mt) d
  have hQ := clo_Rt (er := eB) (kn_pu pu_B) (k := kr)
  refine J_cast (σ := [.sh ((eT (eP eN eN)) a1), .un]) rfl ?_
  unfold b10 f10
  refine J_if1 (ρ := [.sh ((eT (eP eN eN)) a1), .un]) (ma := (fun k => orC (nB true) (fun k => andC (Nat.ble (1 : Nat) (TC.lenN a1)) (fun k =>  k (Nat.ble (TC.lenN a1) (12 : Nat))) fun v7 => orC (nB v7) (fun k => allC (fun (x2 : (Nat × Nat)) => (fun k => isrF x2 fun v3 => TC.V v3 k)) a1 fun v4 => TC.V (nB v4) k) fun v8 => TC.V v8 k) fun v9 => TC.V v9 k)) tru_B (E_conv (E_or (E_not tru_B (E_isi is_T (E_var (i := 0) (ea := (eT (eP eN eN))) (x := a1) rfl))) (E_or (E_not tru_B (E_chain cm_le cm_le (E_num 1) (E_blt1 bl_lenT (E_var (i := 0) (ea := (eT (eP eN eN))) (x := a1) rfl)) (E_glob (j := 2) (d := .int 12) (ea := eN) (12 : Nat) rfl))) (E_one (E_not tru_B (E_all (own := [1]) (tg := (.one 1)) (ex := (eP eN eN)) (E := fun x2 => [.sh ((eT (eP eN eN)) a1), .sh ((eP eN eN) x2)]) (E_iseqT (ea := (eP eN eN)) (E_var (i := 0) (ea := (eT (eP eN eN))) (x := a1) rfl)) (fun _ => rfl) (fun x2 => (E_call1 (f := isrF) (ee := eB) (w_is_ratio d (Nat.le_trans (by decide) hd)) (E_var (i := 1) (ea := (eP eN eN)) (x := x2) rfl)))))))) (by with_reducible rfl)) ?_ ?_
  ·
    exact J_ret (ρ := [.sh ((eT (eP eN eN)) a1), .un]) (kr := kr) (Q := Rt eB kr) (ma := (TC.V false)) (ea := eB) (E_conv (E_bl false) (by with_reducible rfl)) (fun x h => ⟨x, rfl, h⟩)
  ·
    exact J_ret (ρ := [.sh ((eT (eP eN eN)) a1), .un]) (kr := kr) (Q := Rt eB kr) (ma := (fun k => allC (fun (x11 : (Nat × Nat)) => (TC.V (Nat.ble (0 : Nat) x11.1))) a1 fun v12 => andC v12 (fun k => totF a1 fun v10 => TC.V ((eqPr Nat.beq Nat.beq) v10 (1, 1)) k) fun v13 => TC.V v13 k)) (ea := eB) (E_conv (E_and (E_all (own := [1]) (tg := (.one 1)) (ex := (eP eN eN)) (E := fun x11 => [.sh ((eT (eP eN eN)) a1), .sh ((eP eN eN) x11)]) (E_iseqT (ea := (eP eN eN)) (E_var (i := 0) (ea := (eT (eP eN eN))) (x := a1) rfl)) (fun _ => rfl) (fun x11 => (E_cmp cm_ge (E_subk sk_0 (E_var (i := 1) (ea := (eP eN eN)) (x := x11) rfl)) (E_num 0)))) (E_one (E_cmp (cm_eq (eb_P eb_N eb_N) (by decide)) (E_call1 (f := totF) (ee := (eP eN eN)) (w_totalT d (Nat.le_trans (by decide) hd)) (E_var (i := 0) (ea := (eT (eP eN eN))) (x := a1) rfl)) (E_glob (j := 1) (d := .tuple [.int 1, .int 1]) (ea := (eP eN eN)) ((1, 1) : (Nat × Nat)) rfl)))) (by with_reducible rfl)) (fun x h => ⟨x, rfl, h⟩)
/-- check_chances -/
noncomputable def f11 (a1 : (List (Nat × Nat))) : C Unit := fun kr =>
  f10 a1 fun v2 => TC.V (nB v2) fun x => cB x (false) (kr ())
theorem y11 : Q.Has T bs 11 1 b11 1 [] := ⟨rfl, _, rfl, rfl, rfl⟩
theorem o11 : At1 T bs mt 6 11 (eT (eP eN eN)) eU f11 := at1 y11 fun d hd a1 kr => by
  have hC := monoC (T := T) (bs := bs) (mt := mt) d
  have hQ := clo_Rt (er := eU) (kn_pu pu_U) (k := kr)
  refine J_cast (σ := [.sh ((eT (eP eN eN)) a1)]) rfl ?_
  unfold b11 f11
  refine J_if1 (ρ := [.sh ((eT (eP eN eN)) a1)]) (ma := (fun k => f10 a1 fun v2 => TC.V (nB v2) k)) tru_B (E_conv (E_not tru_B (E_call1 (f := f10) (ee := eB) (o10 d (Nat.le_trans (by decide) hd)) (E_var (i := 0) (ea := (eT (eP eN eN))) (x := a1) rfl))) (by with_reducible rfl)) ?_ ?_
  ·
    exact J_false
  ·
    exact J_done (fun h => ⟨(), rfl, h⟩)
/-- poly_times -/
noncomputable def f14 (a1 : (List (Nat × Nat))) (a2 : (List (Nat × Nat))) (a3 : Nat) : C (List (Nat × Nat)) := fun kr =>
  subN (Nat.add (TC.lenN a1) (TC.lenN a2)) (1 : Nat) fun v4 => minN a3 v4 fun v8 => repLC ((0, 1) :: ([] : List (Nat × Nat))) v8 fun v9 => TC.V v9 fun v10 =>  TC.V (enumN 0 a1) fun xs => forC (S := (List (Nat × Nat))) (fun (x13 : (Nat × (Nat × Nat))) s11 j12 =>  TC.V (enumN 0 a2) fun xs => forC (S := (List (Nat × Nat))) (fun (x16 : (Nat × (Nat × Nat))) s14 j15 => joinC (S := (List (Nat × Nat))) (fun j21 => andC (Nat.blt (Nat.add x13.1 x16.1) a3) (fun k => andC (nB (Nat.beq x13.2.1 (0 : Nat))) (TC.V (nB (Nat.beq x16.2.1 (0 : Nat)))) fun v17 => TC.V v17 k) fun v19 => TC.V v19 fun x => cB x (subL s14 (Nat.add x13.1 x16.1) fun v22 => mulF x13.2 x16.2 fun v24 => addF v22 v24 fun v25 => TC.V v25 fun x =>  TC.V (Nat.add x13.1 x16.1) fun n => setC n s14 x fun v27 => j21 v27) (j21 s14)) fun s20 => j15 s20) xs s11 fun s14 => j12 s14) xs v10 fun s11 =>  TC.V s11 kr
theorem y14 : Q.Has T bs 14 8 b14 3 [] := ⟨rfl, _, rfl, rfl, rfl⟩
theorem o14 : At3 T bs mt 4 14 (eT (eP eN eN)) (eT (eP eN eN)) eN (eT (eP eN eN)) f14 := at3 y14 fun d hd a1 a2 a3 kr => by
  have hC := monoC (T := T) (bs := bs) (mt := mt) d
  have hQ := clo_Rt (er := (eT (eP eN eN))) (kn_pu (pu_T (pu_P pu_N pu_N))) (k := kr)
  refine J_cast (σ := [.sh ((eT (eP eN eN)) a1), .sh ((eT (eP eN eN)) a2), .sh (eN a3), .un, .un, .un, .un, .un]) rfl ?_
  unfold b14 f14
  refine J_setf (ρ := [.sh ((eT (eP eN eN)) a1), .sh ((eT (eP eN eN)) a2), .sh (eN a3), .un, .un, .un, .un, .un]) (i := 7) (ml := (fun k => subN (Nat.add (TC.lenN a1) (TC.lenN a2)) (1 : Nat) fun v4 => minN a3 v4 fun v8 => repLC ((0, 1) :: ([] : List (Nat × Nat))) v8 fun v9 => TC.V v9 k)) (ea := (eP eN eN)) rfl (E_conv (E_bin (ec := (eL (eP eN eN))) op_repL (E_lst (ea := (eP eN eN)) (E_cons (E_glob (j := 0) (d := .tuple [.int 0, .int 1]) (ea := (eP eN eN)) ((0, 1) : (Nat × Nat)) rfl) (E_nil (ea := (eP eN eN))))) (E_blt2 bl_min2 (E_var (i := 2) (ea := eN) (x := a3) rfl) (E_bin op_subN (E_bin op_addN (E_blt1 bl_lenT (E_var (i := 0) (ea := (eT (eP eN eN))) (x := a1) rfl)) (E_blt1 bl_lenT (E_var (i := 1) (ea := (eT (eP eN eN))) (x := a2) rfl))) (E_num 1)))) (by with_reducible rfl)) (pu_P pu_N pu_N) (fun v10 => (J_cast (σ := [.sh ((eT (eP eN eN)) a1), .sh ((eT (eP eN eN)) a2), .sh (eN a3), .un, .un, .un, .un, oP (eP eN eN) v10]) rfl ?_))
  refine J_for (ρ := [.sh ((eT (eP eN eN)) a1), .sh ((eT (eP eN eN)) a2), .sh (eN a3), .un, .un, .un, .un, oP (eP eN eN) v10]) (t := (.many [4, 6])) (fz := []) (S := (List (Nat × Nat))) (X := (Nat × (Nat × Nat))) (ex := (eP eN (eP eN eN))) (E := fun s11 => [.sh ((eT (eP eN eN)) a1), .sh ((eT (eP eN eN)) a2), .sh (eN a3), .un, .un, .un, .un, oP (eP eN eN) s11]) (Eb := fun x13 s11 => [.sh ((eT (eP eN eN)) a1), .sh ((eT (eP eN eN)) a2), .sh (eN a3), .un, .sh (eN x13.1), .un, .sh ((eP eN eN) x13.2), oP (eP eN eN) s11]) (s0 := v10) (mx := (TC.V (enumN 0 a1))) hC mono_c hQ (E_conv (E_ienumT (ea := (eP eN eN)) (E_var (i := 0) (ea := (eT (eP eN eN))) (x := a1) rfl)) (by with_reducible rfl)) (fk_msk (m := [false, false, false, false, false, false, false, false]) rfl) (fun _ _ => rfl) (fun x13 s11 j12 => ?_) (fun s11 => ?_)
  ·
    refine J_for (ρ := [.sh ((eT (eP eN eN)) a1), .sh ((eT (eP eN eN)) a2), .sh (eN a3), .un, .sh (eN x13.1), .un, .sh ((eP eN eN) x13.2), oP (eP eN eN) s11]) (t := (.many [3, 5])) (fz := []) (S := (List (Nat × Nat))) (X := (Nat × (Nat × Nat))) (ex := (eP eN (eP eN eN))) (E := fun s14 => [.sh ((eT (eP eN eN)) a1), .sh ((eT (eP eN eN)) a2), .sh (eN a3), .un, .sh (eN x13.1), .un, .sh ((eP eN eN) x13.2), oP (eP eN eN) s14]) (Eb := fun x16 s14 => [.sh ((eT (eP eN eN)) a1), .sh ((eT (eP eN eN)) a2), .sh (eN a3), .sh (eN x16.1), .sh (eN x13.1), .sh ((eP eN eN) x16.2), .sh ((eP eN eN) x13.2), oP (eP eN eN) s14]) (s0 := s11) (mx := (TC.V (enumN 0 a2))) hC mono_Nx hQ (E_conv (E_ienumT (ea := (eP eN eN)) (E_var (i := 1) (ea := (eT (eP eN eN))) (x := a2) rfl)) (by with_reducible rfl)) (fk_msk (m := [false, false, false, false, false, false, false, false]) rfl) (fun _ _ => rfl) (fun x16 s14 j15 => ?_) (fun s14 => ?_)
    ·
      refine J_ifS (ρ := [.sh ((eT (eP eN eN)) a1), .sh ((eT (eP eN eN)) a2), .sh (eN a3), .sh (eN x16.1), .sh (eN x13.1), .sh ((eP eN eN) x16.2), .sh ((eP eN eN) x13.2), oP (eP eN eN) s14]) (S := (List (Nat × Nat))) (E := fun s20 => [.sh ((eT (eP eN eN)) a1), .sh ((eT (eP eN eN)) a2), .sh (eN a3), .sh (eN x16.1), .sh (eN x13.1), .sh ((eP eN eN) x16.2), .sh ((eP eN eN) x13.2), oP (eP eN eN) s20]) (ma := (fun k => andC (Nat.blt (Nat.add x13.1 x16.1) a3) (fun k => andC (nB (Nat.beq x13.2.1 (0 : Nat))) (TC.V (nB (Nat.beq x16.2.1 (0 : Nat)))) fun v17 => TC.V v17 k) fun v19 => TC.V v19 k)) hC mono_Nx hQ tru_B (E_conv (E_and (E_cmp cm_lt (E_bin op_addN (E_var (i := 4) (ea := eN) (x := x13.1) rfl) (E_var (i := 3) (ea := eN) (x := x16.1) rfl)) (E_var (i := 2) (ea := eN) (x := a3) rfl)) (E_and (E_cmp (cm_ne eb_N (by decide)) (E_subk sk_0 (E_var (i := 6) (ea := (eP eN eN)) (x := x13.2) rfl)) (E_num 0)) (E_one (E_cmp (cm_ne eb_N (by decide)) (E_subk sk_0 (E_var (i := 5) (ea := (eP eN eN)) (x := x16.2) rfl)) (E_num 0))))) (by with_reducible rfl)) (fun j21 => ?_) (fun j21 => ?_) (fun s20 => ?_)
      ·
        refine J_sto (ρ := [.sh ((eT (eP eN eN)) a1), .sh ((eT (eP eN eN)) a2), .sh (eN a3), .sh (eN x16.1), .sh (eN x13.1), .sh ((eP eN eN) x16.2), .sh ((eP eN eN) x13.2), oP (eP eN eN) s14]) (i := 7) (ma := (fun k => subL s14 (Nat.add x13.1 x16.1) fun v22 => mulF x13.2 x16.2 fun v24 => addF v22 v24 fun v25 => TC.V v25 k)) (mi := (TC.V (Nat.add x13.1 x16.1))) (ea := (eP eN eN)) (xs := s14) rfl (E_conv (E_call2 (f := addF) (ee := (eP eN eN)) (w_add d (Nat.le_trans (by decide) hd)) (E_sub (ec := (eP eN eN)) sb_L (E_var (i := 7) (ea := (eL (eP eN eN))) (x := s14) rfl) (E_bin op_addN (E_var (i := 4) (ea := eN) (x := x13.1) rfl) (E_var (i := 3) (ea := eN) (x := x16.1) rfl))) (E_call2 (f := mulF) (ee := (eP eN eN)) (w_times d (Nat.le_trans (by decide) hd)) (E_var (i := 6) (ea := (eP eN eN)) (x := x13.2) rfl) (E_var (i := 5) (ea := (eP eN eN)) (x := x16.2) rfl))) (by with_reducible rfl)) (E_conv (E_bin op_addN (E_var (i := 4) (ea := eN) (x := x13.1) rfl) (E_var (i := 3) (ea := eN) (x := x16.1) rfl)) (by with_reducible rfl)) (pu_P pu_N pu_N) (fun v27 => (J_cast (σ := [.sh ((eT (eP eN eN)) a1), .sh ((eT (eP eN eN)) a2), .sh (eN a3), .sh (eN x16.1), .sh (eN x13.1), .sh ((eP eN eN) x16.2), .sh ((eP eN eN) x13.2), oP (eP eN eN) v27]) rfl ?_))
        exact J_done (fun h => ⟨v27, fk_msk (m := [false, false, false, false, false, false, false, false]) rfl, h⟩)
      ·
        exact J_done (fun h => ⟨s14, fk_msk (m := [false, false, false, false, false, false, false, false]) rfl, h⟩)
      ·
        exact J_done (fun h => ⟨s20, fk_msk (m := [false, false, false, true, false, true, false, false]) rfl, h⟩)
    ·
      exact J_done (fun h => ⟨s14, fk_msk (m := [false, false, false, false, true, false, true, false]) rfl, h⟩)
  ·
    exact J_ret (ρ := [.sh ((eT (eP eN eN)) a1), .sh ((eT (eP eN eN)) a2), .sh (eN a3), .un, .un, .un, .un, oP (eP eN eN) s11]) (kr := kr) (Q := Rt (eT (eP eN eN)) kr) (ma := (TC.V s11)) (ea := (eT (eP eN eN))) (E_conv (E_blt1 bl_tupL (E_var (i := 7) (ea := (eL (eP eN eN))) (x := s11) rfl)) (by with_reducible rfl)) (fun x h => ⟨x, rfl, h⟩)
/-- poly_power -/
noncomputable def f15 (a1 : (List (Nat × Nat))) (a2 : Nat) (a3 : Nat) : C (List (Nat × Nat)) := fun kr =>
   TC.V ((1, 1) :: ([] : List (Nat × Nat))) fun v4 => G (Nat.blt a2 4611686018427387904) <| TC.V (upto a2 0) fun xs => forC (S := (List (Nat × Nat))) (fun (x8 : Nat) s6 j7 => f14 s6 a1 a3 fun v10 => TC.V v10 fun v9 => j7 v9) xs v4 fun s6 =>  TC.V s6 kr
theorem y15 : Q.Has T bs 15 5 b15 3 [] := ⟨rfl, _, rfl, rfl, rfl⟩
theorem o15 : At3 T bs mt 5 15 (eT (eP eN eN)) eN eN (eT (eP eN eN)) f15 := at3 y15 fun d hd a1 a2 a3 kr => by
  have hC := monoC (T := T) (bs := bs) (mt := mt) d
  have hQ := clo_Rt (er := (eT (eP eN eN))) (kn_pu (pu_T (pu_P pu_N pu_N))) (k := kr)
  refine J_cast (σ := [.sh ((eT (eP eN eN)) a1), .sh (eN a2), .sh (eN a3), .un, .un]) rfl ?_
  unfold b15 f15
  refine J_setz (ρ := [.sh ((eT (eP eN eN)) a1), .sh (eN a2), .sh (eN a3), .un, .un]) (i := 3) (fz := []) (ma := (TC.V ((1, 1) :: ([] : List (Nat × Nat))))) (ea := (eT (eP eN eN))) (E_conv (E_tup (E_cons (E_glob (j := 1) (d := .tuple [.int 1, .int 1]) (ea := (eP eN eN)) ((1, 1) : (Nat × Nat)) rfl) (E_nil (ea := (eP eN eN))))) (by with_reducible rfl)) (fun v4 => (J_cast (σ := [.sh ((eT (eP eN eN)) a1), .sh (eN a2), .sh (eN a3), .sh ((eT (eP eN eN)) v4), .un]) rfl ?_))
  refine J_for (ρ := [.sh ((eT (eP eN eN)) a1), .sh (eN a2), .sh (eN a3), .sh ((eT (eP eN eN)) v4), .un]) (t := (.one 4)) (fz := []) (S := (List (Nat × Nat))) (X := Nat) (ex := eN) (E := fun s6 => [.sh ((eT (eP eN eN)) a1), .sh (eN a2), .sh (eN a3), .sh ((eT (eP eN eN)) s6), .un]) (Eb := fun x8 s6 => [.sh ((eT (eP eN eN)) a1), .sh (eN a2), .sh (eN a3), .sh ((eT (eP eN eN)) s6), .sh (eN x8)]) (s0 := v4) (mx := (fun k => G (Nat.blt a2 4611686018427387904) <| TC.V (upto a2 0) k)) hC mono_c hQ (E_conv (E_ir1 (E_var (i := 1) (ea := eN) (x := a2) rfl)) (by with_reducible rfl)) (fk_msk (m := [false, false, false, false, false]) rfl) (fun _ _ => rfl) (fun x8 s6 j7 => ?_) (fun s6 => ?_)
  ·
    refine J_setz (ρ := [.sh ((eT (eP eN eN)) a1), .sh (eN a2), .sh (eN a3), .sh ((eT (eP eN eN)) s6), .sh (eN x8)]) (i := 3) (fz := []) (ma := (fun k => f14 s6 a1 a3 fun v10 => TC.V v10 k)) (ea := (eT (eP eN eN))) (E_conv (E_call3 (f := f14) (ee := (eT (eP eN eN))) (o14 d (Nat.le_trans (by decide) hd)) (E_var (i := 3) (ea := (eT (eP eN eN))) (x := s6) rfl) (E_var (i := 0) (ea := (eT (eP eN eN))) (x := a1) rfl) (E_var (i := 2) (ea := eN) (x := a3) rfl)) (by with_reducible rfl)) (fun v9 => (J_cast (σ := [.sh ((eT (eP eN eN)) a1), .sh (eN a2), .sh (eN a3), .sh ((eT (eP eN eN)) v9), .sh (eN x8)]) rfl ?_))
    exact J_done (fun h => ⟨v9, fk_msk (m := [false, false, false, false, true]) rfl, h⟩)
  ·
    exact J_ret (ρ := [.sh ((eT (eP eN eN)) a1), .sh (eN a2), .sh (eN a3), .sh ((eT (eP eN eN)) s6), .un]) (kr := kr) (Q := Rt (eT (eP eN eN)) kr) (ma := (TC.V s6)) (ea := (eT (eP eN eN))) (E_conv (E_var (i := 3) (ea := (eT (eP eN eN))) (x := s6) rfl) (by with_reducible rfl)) (fun x h => ⟨x, rfl, h⟩)
/-- born_chance -/
noncomputable def f17 (a1 : (List (Nat × Nat))) (a2 : Nat) : C (Nat × Nat) := fun kr =>
  f11 a1 fun v3 => TC.V v3 fun _ => who2 a2 (1 : Nat) fun v4 => orC (nB v4) (TC.V (Nat.blt (30 : Nat) a2)) fun v5 => TC.V v5 fun x => cB x (false) (f15 a1 a2 a2 fun v7 => TC.V v7 fun v6 => lowC (1 : Nat) a2 fun v8 => iteC (Nat.ble a2 (TC.lenN v6)) (fun k => subN a2 (1 : Nat) fun v11 => subL v6 v11 fun v10 => TC.V v10 k) (TC.V (0, 1)) fun v12 => mulF v8 v12 fun v13 => TC.V v13 kr)
theorem y17 : Q.Has T bs 17 3 b17 2 [] := ⟨rfl, _, rfl, rfl, rfl⟩
theorem o17 : At2 T bs mt 7 17 (eT (eP eN eN)) eN (eP eN eN) f17 := at2 y17 fun d hd a1 a2 kr => by
  have hC := monoC (T := T) (bs := bs) (mt := mt) d
  have hQ := clo_Rt (er := (eP eN eN)) (kn_pu (pu_P pu_N pu_N)) (k := kr)
  refine J_cast (σ := [.sh ((eT (eP eN eN)) a1), .sh (eN a2), .un]) rfl ?_
  unfold b17 f17
  refine J_expr (ρ := [.sh ((eT (eP eN eN)) a1), .sh (eN a2), .un]) (ma := (fun k => f11 a1 fun v3 => TC.V v3 k)) (E_conv (E_call1 (f := f11) (ee := eU) (o11 d (Nat.le_trans (by decide) hd)) (E_var (i := 0) (ea := (eT (eP eN eN))) (x := a1) rfl)) (by with_reducible rfl)) ?_
  refine J_if1 (ρ := [.sh ((eT (eP eN eN)) a1), .sh (eN a2), .un]) (ma := (fun k => who2 a2 (1 : Nat) fun v4 => orC (nB v4) (TC.V (Nat.blt (30 : Nat) a2)) fun v5 => TC.V v5 k)) tru_B (E_conv (E_or (E_not tru_B (E_call2 (f := who2) (ee := eB) (w_is_whole2 d (Nat.le_trans (by decide) hd)) (E_var (i := 1) (ea := eN) (x := a2) rfl) (E_num 1))) (E_one (E_cmp cm_gt (E_var (i := 1) (ea := eN) (x := a2) rfl) (E_num 30)))) (by with_reducible rfl)) ?_ ?_
  ·
    exact J_false
  ·
    refine J_setz (ρ := [.sh ((eT (eP eN eN)) a1), .sh (eN a2), .un]) (i := 2) (fz := []) (ma := (fun k => f15 a1 a2 a2 fun v7 => TC.V v7 k)) (ea := (eT (eP eN eN))) (E_conv (E_call3 (f := f15) (ee := (eT (eP eN eN))) (o15 d (Nat.le_trans (by decide) hd)) (E_var (i := 0) (ea := (eT (eP eN eN))) (x := a1) rfl) (E_var (i := 1) (ea := eN) (x := a2) rfl) (E_var (i := 1) (ea := eN) (x := a2) rfl)) (by with_reducible rfl)) (fun v6 => (J_cast (σ := [.sh ((eT (eP eN eN)) a1), .sh (eN a2), .sh ((eT (eP eN eN)) v6)]) rfl ?_))
    exact J_ret (ρ := [.sh ((eT (eP eN eN)) a1), .sh (eN a2), .sh ((eT (eP eN eN)) v6)]) (kr := kr) (Q := Rt (eP eN eN) kr) (ma := (fun k => lowC (1 : Nat) a2 fun v8 => iteC (Nat.ble a2 (TC.lenN v6)) (fun k => subN a2 (1 : Nat) fun v11 => subL v6 v11 fun v10 => TC.V v10 k) (TC.V (0, 1)) fun v12 => mulF v8 v12 fun v13 => TC.V v13 k)) (ea := (eP eN eN)) (E_conv (E_call2 (f := mulF) (ee := (eP eN eN)) (w_times d (Nat.le_trans (by decide) hd)) (E_call2 (f := lowC) (ee := (eP eN eN)) (w_ratio d (Nat.le_trans (by decide) hd)) (E_num 1) (E_var (i := 1) (ea := eN) (x := a2) rfl)) (E_ite (eb := (eP eN eN)) tru_B (E_cmp cm_ge (E_blt1 bl_lenT (E_var (i := 2) (ea := (eT (eP eN eN))) (x := v6) rfl)) (E_var (i := 1) (ea := eN) (x := a2) rfl)) (E_sub (ec := (eP eN eN)) sb_T (E_var (i := 2) (ea := (eT (eP eN eN))) (x := v6) rfl) (E_bin op_subN (E_var (i := 1) (ea := eN) (x := a2) rfl) (E_num 1))) (E_glob (j := 0) (d := .tuple [.int 0, .int 1]) (ea := (eP eN eN)) ((0, 1) : (Nat × Nat)) rfl))) (by with_reducible rfl)) (fun x h => ⟨x, rfl, h⟩)
/-- family_words -/
noncomputable def f19 (a1 : Nat) : C (List (List Nat)) := fun kr =>
  who2 a1 (1 : Nat) fun v2 => orC (nB v2) (TC.V (Nat.blt (7 : Nat) a1)) fun v3 => TC.V v3 fun x => cB x (false) ( TC.V ((([] : List Nat), (1 : Nat)) :: ([] : List ((List Nat) × Nat))) fun v4 => G (Nat.blt a1 4611686018427387904) <| TC.V (upto a1 0) fun xs => forC (S := (List ((List Nat) × Nat))) (fun (x8 : Nat) s6 j7 =>  TC.V ([] : List ((List Nat) × Nat)) fun v9 =>  TC.V s6 fun xs => forC (S := (List ((List Nat) × Nat))) (fun (x12 : ((List Nat) × Nat)) s10 j11 => joinC (S := (List ((List Nat) × Nat))) (fun j14 =>  TC.V (Nat.blt (0 : Nat) x12.2) fun x => cB x (G (Nat.blt a1 4611686018427387904) <| lcA (fun (x17 : Nat) => (fun k => catC x12.1 (x17 :: ([] : List Nat)) fun v18 => subN x12.2 (1 : Nat) fun v20 => TC.V (v18, (Nat.add v20 x17)) k)) (upto a1 0) 0 fun v21 => catC s10 v21 fun v22 => TC.V v22 fun v15 => j14 v15) (j14 s10)) fun s13 => j11 s13) xs v9 fun s10 => lcC (fun (x24 : ((List Nat) × Nat)) k => subN a1 x8 fun v27 => subN v27 (1 : Nat) fun v26 => k (Nat.ble x24.2 v26)) (fun (x24 : ((List Nat) × Nat)) => (TC.V x24)) s10 0 fun v25 => TC.V v25 fun v23 => j7 v23) xs v4 fun s6 => lcC (fun (x28 : ((List Nat) × Nat)) k =>  k (Nat.beq x28.2 (0 : Nat))) (fun (x28 : ((List Nat) × Nat)) => (TC.V x28.1)) s6 0 fun v29 => sortTC v29 fun v30 => TC.V v30 kr)
theorem y19 : Q.Has T bs 19 8 b19 1 [] := ⟨rfl, _, rfl, rfl, rfl⟩
theorem o19 : At1 T bs mt 2 19 eN (eT (eT eN)) f19 := at1 y19 fun d hd a1 kr => by
  have hC := monoC (T := T) (bs := bs) (mt := mt) d
  have hQ := clo_Rt (er := (eT (eT eN))) (kn_pu (pu_T (pu_T pu_N))) (k := kr)
  refine J_cast (σ := [.sh (eN a1), .un, .un, .un, .un, .un, .un, .un]) rfl ?_
  unfold b19 f19
  refine J_if1 (ρ := [.sh (eN a1), .un, .un, .un, .un, .un, .un, .un]) (ma := (fun k => who2 a1 (1 : Nat) fun v2 => orC (nB v2) (TC.V (Nat.blt (7 : Nat) a1)) fun v3 => TC.V v3 k)) tru_B (E_conv (E_or (E_not tru_B (E_call2 (f := who2) (ee := eB) (w_is_whole2 d (Nat.le_trans (by decide) hd)) (E_var (i := 0) (ea := eN) (x := a1) rfl) (E_num 1))) (E_one (E_cmp cm_gt (E_var (i := 0) (ea := eN) (x := a1) rfl) (E_num 7)))) (by with_reducible rfl)) ?_ ?_
  ·
    exact J_false
  ·
    refine J_setz (ρ := [.sh (eN a1), .un, .un, .un, .un, .un, .un, .un]) (i := 7) (fz := []) (ma := (TC.V ((([] : List Nat), (1 : Nat)) :: ([] : List ((List Nat) × Nat))))) (ea := (eL (eP (eT eN) eN))) (E_conv (E_lst (ea := (eP (eT eN) eN)) (E_cons (E_tup (E_es2 (E_tup (E_nil (ea := eN))) (E_num 1))) (E_nil (ea := (eP (eT eN) eN))))) (by with_reducible rfl)) (fun v4 => (J_cast (σ := [.sh (eN a1), .un, .un, .un, .un, .un, .un, .sh ((eL (eP (eT eN) eN)) v4)]) rfl ?_))
    refine J_for (ρ := [.sh (eN a1), .un, .un, .un, .un, .un, .un, .sh ((eL (eP (eT eN) eN)) v4)]) (t := (.one 6)) (fz := []) (S := (List ((List Nat) × Nat))) (X := Nat) (ex := eN) (E := fun s6 => [.sh (eN a1), .un, .un, .un, .un, .un, .un, .sh ((eL (eP (eT eN) eN)) s6)]) (Eb := fun x8 s6 => [.sh (eN a1), .un, .un, .un, .un, .un, .sh (eN x8), .sh ((eL (eP (eT eN) eN)) s6)]) (s0 := v4) (mx := (fun k => G (Nat.blt a1 4611686018427387904) <| TC.V (upto a1 0) k)) hC mono_c hQ (E_conv (E_ir1 (E_var (i := 0) (ea := eN) (x := a1) rfl)) (by with_reducible rfl)) (fk_msk (m := [false, false, false, false, false, false, false, false]) rfl) (fun _ _ => rfl) (fun x8 s6 j7 => ?_) (fun s6 => ?_)
    ·
      refine J_setz (ρ := [.sh (eN a1), .un, .un, .un, .un, .un, .sh (eN x8), .sh ((eL (eP (eT eN) eN)) s6)]) (i := 5) (fz := []) (ma := (TC.V ([] : List ((List Nat) × Nat)))) (ea := (eL (eP (eT eN) eN))) (E_conv (E_lst (ea := (eP (eT eN) eN)) (E_nil (ea := (eP (eT eN) eN)))) (by with_reducible rfl)) (fun v9 => (J_cast (σ := [.sh (eN a1), .un, .un, .un, .un, .sh ((eL (eP (eT eN) eN)) v9), .sh (eN x8), .sh ((eL (eP (eT eN) eN)) s6)]) rfl ?_))
      refine J_for (ρ := [.sh (eN a1), .un, .un, .un, .un, .sh ((eL (eP (eT eN) eN)) v9), .sh (eN x8), .sh ((eL (eP (eT eN) eN)) s6)]) (t := (.many [3, 2])) (fz := []) (S := (List ((List Nat) × Nat))) (X := ((List Nat) × Nat)) (ex := (eP (eT eN) eN)) (E := fun s10 => [.sh (eN a1), .un, .un, .un, .un, .sh ((eL (eP (eT eN) eN)) s10), .sh (eN x8), .sh ((eL (eP (eT eN) eN)) s6)]) (Eb := fun x12 s10 => [.sh (eN a1), .un, .sh (eN x12.2), .sh ((eT eN) x12.1), .un, .sh ((eL (eP (eT eN) eN)) s10), .sh (eN x8), .sh ((eL (eP (eT eN) eN)) s6)]) (s0 := v9) (mx := (TC.V s6)) hC mono_Nx hQ (E_conv (E_iseqL (ea := (eP (eT eN) eN)) (E_var (i := 7) (ea := (eL (eP (eT eN) eN))) (x := s6) rfl)) (by with_reducible rfl)) (fk_msk (m := [false, false, false, false, false, false, false, false]) rfl) (fun _ _ => rfl) (fun x12 s10 j11 => ?_) (fun s10 => ?_)
      ·
        refine J_ifS (ρ := [.sh (eN a1), .un, .sh (eN x12.2), .sh ((eT eN) x12.1), .un, .sh ((eL (eP (eT eN) eN)) s10), .sh (eN x8), .sh ((eL (eP (eT eN) eN)) s6)]) (S := (List ((List Nat) × Nat))) (E := fun s13 => [.sh (eN a1), .un, .sh (eN x12.2), .sh ((eT eN) x12.1), .un, .sh ((eL (eP (eT eN) eN)) s13), .sh (eN x8), .sh ((eL (eP (eT eN) eN)) s6)]) (ma := (TC.V (Nat.blt (0 : Nat) x12.2))) hC mono_Nx hQ tru_B (E_conv (E_cmp cm_gt (E_var (i := 2) (ea := eN) (x := x12.2) rfl) (E_num 0)) (by with_reducible rfl)) (fun j14 => ?_) (fun j14 => ?_) (fun s13 => ?_)
        ·
          refine J_setz (ρ := [.sh (eN a1), .un, .sh (eN x12.2), .sh ((eT eN) x12.1), .un, .sh ((eL (eP (eT eN) eN)) s10), .sh (eN x8), .sh ((eL (eP (eT eN) eN)) s6)]) (i := 5) (fz := []) (ma := (fun k => G (Nat.blt a1 4611686018427387904) <| lcA (fun (x17 : Nat) => (fun k => catC x12.1 (x17 :: ([] : List Nat)) fun v18 => subN x12.2 (1 : Nat) fun v20 => TC.V (v18, (Nat.add v20 x17)) k)) (upto a1 0) 0 fun v21 => catC s10 v21 fun v22 => TC.V v22 k)) (ea := (eL (eP (eT eN) eN))) (E_conv (E_bin (ec := (eL (eP (eT eN) eN))) op_catL (E_var (i := 5) (ea := (eL (eP (eT eN) eN))) (x := s10) rfl) (E_lca (own := [1]) (tg := (.one 1)) (ex := eN) (ey := (eP (eT eN) eN)) (E := fun x17 => [.sh (eN a1), .sh (eN x17), .sh (eN x12.2), .sh ((eT eN) x12.1), .un, .sh ((eL (eP (eT eN) eN)) s10), .sh (eN x8), .sh ((eL (eP (eT eN) eN)) s6)]) (E_ir1 (E_var (i := 0) (ea := eN) (x := a1) rfl)) (fun _ => rfl) (fun x17 => (E_tup (E_es2 (E_bin (ec := (eT eN)) op_catT (E_var (i := 3) (ea := (eT eN)) (x := x12.1) rfl) (E_tup (E_cons (E_var (i := 1) (ea := eN) (x := x17) rfl) (E_nil (ea := eN))))) (E_bin op_addN (E_bin op_subN (E_var (i := 2) (ea := eN) (x := x12.2) rfl) (E_num 1)) (E_var (i := 1) (ea := eN) (x := x17) rfl))))))) (by with_reducible rfl)) (fun v15 => (J_cast (σ := [.sh (eN a1), .un, .sh (eN x12.2), .sh ((eT eN) x12.1), .un, .sh ((eL (eP (eT eN) eN)) v15), .sh (eN x8), .sh ((eL (eP (eT eN) eN)) s6)]) rfl ?_))
          exact J_done (fun h => ⟨v15, fk_msk (m := [false, false, false, false, false, false, false, false]) rfl, h⟩)
        ·
          exact J_done (fun h => ⟨s10, fk_msk (m := [false, false, false, false, false, false, false, false]) rfl, h⟩)
        ·
          exact J_done (fun h => ⟨s13, fk_msk (m := [false, false, true, true, false, false, false, false]) rfl, h⟩)
      ·
        refine J_setz (ρ := [.sh (eN a1), .un, .un, .un, .un, .sh ((eL (eP (eT eN) eN)) s10), .sh (eN x8), .sh ((eL (eP (eT eN) eN)) s6)]) (i := 7) (fz := []) (ma := (fun k => lcC (fun (x24 : ((List Nat) × Nat)) k => subN a1 x8 fun v27 => subN v27 (1 : Nat) fun v26 => k (Nat.ble x24.2 v26)) (fun (x24 : ((List Nat) × Nat)) => (TC.V x24)) s10 0 fun v25 => TC.V v25 k)) (ea := (eL (eP (eT eN) eN))) (E_conv (E_lc (own := [4]) (tg := (.one 4)) (ex := (eP (eT eN) eN)) (ey := (eP (eT eN) eN)) (E := fun x24 => [.sh (eN a1), .un, .un, .un, .sh ((eP (eT eN) eN) x24), .sh ((eL (eP (eT eN) eN)) s10), .sh (eN x8), .sh ((eL (eP (eT eN) eN)) s6)]) (E_iseqL (ea := (eP (eT eN) eN)) (E_var (i := 5) (ea := (eL (eP (eT eN) eN))) (x := s10) rfl)) (fun _ => rfl) tru_B (fun x24 => (E_cmp cm_le (E_subk sk_1 (E_var (i := 4) (ea := (eP (eT eN) eN)) (x := x24) rfl)) (E_bin op_subN (E_bin op_subN (E_var (i := 0) (ea := eN) (x := a1) rfl) (E_var (i := 6) (ea := eN) (x := x8) rfl)) (E_num 1)))) (fun x24 => (E_var (i := 4) (ea := (eP (eT eN) eN)) (x := x24) rfl))) (by with_reducible rfl)) (fun v23 => (J_cast (σ := [.sh (eN a1), .un, .un, .un, .un, .sh ((eL (eP (eT eN) eN)) s10), .sh (eN x8), .sh ((eL (eP (eT eN) eN)) v23)]) rfl ?_))
        exact J_done (fun h => ⟨v23, fk_msk (m := [false, false, false, false, false, true, true, false]) rfl, h⟩)
    ·
      exact J_ret (ρ := [.sh (eN a1), .un, .un, .un, .un, .un, .un, .sh ((eL (eP (eT eN) eN)) s6)]) (kr := kr) (Q := Rt (eT (eT eN)) kr) (ma := (fun k => lcC (fun (x28 : ((List Nat) × Nat)) k =>  k (Nat.beq x28.2 (0 : Nat))) (fun (x28 : ((List Nat) × Nat)) => (TC.V x28.1)) s6 0 fun v29 => sortTC v29 fun v30 => TC.V v30 k)) (ea := (eT (eT eN))) (E_conv (E_blt1 bl_tupL (E_blt1 bl_sortTT (E_lc (own := [3, 2]) (tg := (.many [3, 2])) (ex := (eP (eT eN) eN)) (ey := (eT eN)) (E := fun x28 => [.sh (eN a1), .un, .sh (eN x28.2), .sh ((eT eN) x28.1), .un, .un, .un, .sh ((eL (eP (eT eN) eN)) s6)]) (E_iseqL (ea := (eP (eT eN) eN)) (E_var (i := 7) (ea := (eL (eP (eT eN) eN))) (x := s6) rfl)) (fun _ => rfl) tru_B (fun x28 => (E_cmp (cm_eq eb_N (by decide)) (E_var (i := 2) (ea := eN) (x := x28.2) rfl) (E_num 0))) (fun x28 => (E_var (i := 3) (ea := (eT eN)) (x := x28.1) rfl))))) (by with_reducible rfl)) (fun x h => ⟨x, rfl, h⟩)
/-- is_under -/
noncomputable def f9 (a1 : (Nat × Nat)) (a2 : (Nat × Nat)) : C Bool := fun kr =>
  isrF a1 fun v4 => orC (nB v4) (fun k => isrF a2 fun v3 => TC.V (nB v3) k) fun v5 => TC.V v5 fun x => cB x ( TC.V false kr) (mulN a1.1 a2.2 fun v6 => mulN a2.1 a1.2 fun v7 => TC.V (Nat.blt v6 v7) kr)
theorem y9 : Q.Has T bs 9 2 b9 2 [] := ⟨rfl, _, rfl, rfl, rfl⟩
theorem o9 : At2 T bs mt 4 9 (eP eN eN) (eP eN eN) eB f9 := at2 y9 fun d hd a1 a2 kr => by
  have hC := monoC (T := T) (bs := bs) (mt := mt) d
  have hQ := clo_Rt (er := eB) (kn_pu pu_B) (k := kr)
  refine J_cast (σ := [.sh ((eP eN eN) a1), .sh ((eP eN eN) a2)]) rfl ?_
  unfold b9 f9
  refine J_if1 (ρ := [.sh ((eP eN eN) a1), .sh ((eP eN eN) a2)]) (ma := (fun k => isrF a1 fun v4 => orC (nB v4) (fun k => isrF a2 fun v3 => TC.V (nB v3) k) fun v5 => TC.V v5 k)) tru_B (E_conv (E_or (E_not tru_B (E_call1 (f := isrF) (ee := eB) (w_is_ratio d (Nat.le_trans (by decide) hd)) (E_var (i := 0) (ea := (eP eN eN)) (x := a1) rfl))) (E_one (E_not tru_B (E_call1 (f := isrF) (ee := eB) (w_is_ratio d (Nat.le_trans (by decide) hd)) (E_var (i := 1) (ea := (eP eN eN)) (x := a2) rfl))))) (by with_reducible rfl)) ?_ ?_
  ·
    exact J_ret (ρ := [.sh ((eP eN eN) a1), .sh ((eP eN eN) a2)]) (kr := kr) (Q := Rt eB kr) (ma := (TC.V false)) (ea := eB) (E_conv (E_bl false) (by with_reducible rfl)) (fun x h => ⟨x, rfl, h⟩)
  ·
    exact J_ret (ρ := [.sh ((eP eN eN) a1), .sh ((eP eN eN) a2)]) (kr := kr) (Q := Rt eB kr) (ma := (fun k => mulN a1.1 a2.2 fun v6 => mulN a2.1 a1.2 fun v7 => TC.V (Nat.blt v6 v7) k)) (ea := eB) (E_conv (E_cmp cm_lt (E_bin op_mulN (E_subk sk_0 (E_var (i := 0) (ea := (eP eN eN)) (x := a1) rfl)) (E_subk sk_1 (E_var (i := 1) (ea := (eP eN eN)) (x := a2) rfl))) (E_bin op_mulN (E_subk sk_0 (E_var (i := 1) (ea := (eP eN eN)) (x := a2) rfl)) (E_subk sk_1 (E_var (i := 0) (ea := (eP eN eN)) (x := a1) rfl)))) (by with_reducible rfl)) (fun x h => ⟨x, rfl, h⟩)
/-- worth -/
noncomputable def f13 (a1 : (List (Nat × Nat))) (a2 : (Nat × Nat)) : C (Nat × Nat) := fun kr =>
  f11 a1 fun v3 => TC.V v3 fun _ =>  TC.V (0, 1) fun v4 =>  TC.V (revN a1) fun xs => forC (S := (Nat × Nat)) (fun (x7 : (Nat × Nat)) s5 j6 => mulF s5 a2 fun v9 => addF v9 x7 fun v10 => TC.V v10 fun v8 => j6 v8) xs v4 fun s5 =>  TC.V s5 kr
theorem y13 : Q.Has T bs 13 4 b13 2 [] := ⟨rfl, _, rfl, rfl, rfl⟩
theorem o13 : At2 T bs mt 7 13 (eT (eP eN eN)) (eP eN eN) (eP eN eN) f13 := at2 y13 fun d hd a1 a2 kr => by
  have hC := monoC (T := T) (bs := bs) (mt := mt) d
  have hQ := clo_Rt (er := (eP eN eN)) (kn_pu (pu_P pu_N pu_N)) (k := kr)
  refine J_cast (σ := [.sh ((eT (eP eN eN)) a1), .sh ((eP eN eN) a2), .un, .un]) rfl ?_
  unfold b13 f13
  refine J_expr (ρ := [.sh ((eT (eP eN eN)) a1), .sh ((eP eN eN) a2), .un, .un]) (ma := (fun k => f11 a1 fun v3 => TC.V v3 k)) (E_conv (E_call1 (f := f11) (ee := eU) (o11 d (Nat.le_trans (by decide) hd)) (E_var (i := 0) (ea := (eT (eP eN eN))) (x := a1) rfl)) (by with_reducible rfl)) ?_
  refine J_setz (ρ := [.sh ((eT (eP eN eN)) a1), .sh ((eP eN eN) a2), .un, .un]) (i := 2) (fz := []) (ma := (TC.V (0, 1))) (ea := (eP eN eN)) (E_conv (E_glob (j := 0) (d := .tuple [.int 0, .int 1]) (ea := (eP eN eN)) ((0, 1) : (Nat × Nat)) rfl) (by with_reducible rfl)) (fun v4 => (J_cast (σ := [.sh ((eT (eP eN eN)) a1), .sh ((eP eN eN) a2), .sh ((eP eN eN) v4), .un]) rfl ?_))
  refine J_for (ρ := [.sh ((eT (eP eN eN)) a1), .sh ((eP eN eN) a2), .sh ((eP eN eN) v4), .un]) (t := (.one 3)) (fz := []) (S := (Nat × Nat)) (X := (Nat × Nat)) (ex := (eP eN eN)) (E := fun s5 => [.sh ((eT (eP eN eN)) a1), .sh ((eP eN eN) a2), .sh ((eP eN eN) s5), .un]) (Eb := fun x7 s5 => [.sh ((eT (eP eN eN)) a1), .sh ((eP eN eN) a2), .sh ((eP eN eN) s5), .sh ((eP eN eN) x7)]) (s0 := v4) (mx := (TC.V (revN a1))) hC mono_c hQ (E_conv (E_irevT (ea := (eP eN eN)) (E_var (i := 0) (ea := (eT (eP eN eN))) (x := a1) rfl)) (by with_reducible rfl)) (fk_msk (m := [false, false, false, false]) rfl) (fun _ _ => rfl) (fun x7 s5 j6 => ?_) (fun s5 => ?_)
  ·
    refine J_setz (ρ := [.sh ((eT (eP eN eN)) a1), .sh ((eP eN eN) a2), .sh ((eP eN eN) s5), .sh ((eP eN eN) x7)]) (i := 2) (fz := []) (ma := (fun k => mulF s5 a2 fun v9 => addF v9 x7 fun v10 => TC.V v10 k)) (ea := (eP eN eN)) (E_conv (E_call2 (f := addF) (ee := (eP eN eN)) (w_add d (Nat.le_trans (by decide) hd)) (E_call2 (f := mulF) (ee := (eP eN eN)) (w_times d (Nat.le_trans (by decide) hd)) (E_var (i := 2) (ea := (eP eN eN)) (x := s5) rfl) (E_var (i := 1) (ea := (eP eN eN)) (x := a2) rfl)) (E_var (i := 3) (ea := (eP eN eN)) (x := x7) rfl)) (by with_reducible rfl)) (fun v8 => (J_cast (σ := [.sh ((eT (eP eN eN)) a1), .sh ((eP eN eN) a2), .sh ((eP eN eN) v8), .sh ((eP eN eN) x7)]) rfl ?_))
    exact J_done (fun h => ⟨v8, fk_msk (m := [false, false, false, true]) rfl, h⟩)
  ·
    exact J_ret (ρ := [.sh ((eT (eP eN eN)) a1), .sh ((eP eN eN) a2), .sh ((eP eN eN) s5), .un]) (kr := kr) (Q := Rt (eP eN eN) kr) (ma := (TC.V s5)) (ea := (eP eN eN)) (E_conv (E_var (i := 2) (ea := (eP eN eN)) (x := s5) rfl) (by with_reducible rfl)) (fun x h => ⟨x, rfl, h⟩)
/-- is_death_bound -/
noncomputable def f16 (a1 : (List (Nat × Nat))) (a2 : (Nat × Nat)) : C Bool := fun kr =>
  f11 a1 fun v3 => TC.V v3 fun _ => isrF a2 fun v6 => orC (nB v6) (fun k => orC (Nat.blt a2.1 (0 : Nat)) (fun k => f9 (1, 1) a2 fun v4 => TC.V v4 k) fun v5 => TC.V v5 k) fun v7 => TC.V v7 fun x => cB x ( TC.V false kr) (f13 a1 a2 fun v8 => f9 a2 v8 fun v9 => TC.V (nB v9) kr)
theorem y16 : Q.Has T bs 16 2 b16 2 [] := ⟨rfl, _, rfl, rfl, rfl⟩
theorem o16 : At2 T bs mt 8 16 (eT (eP eN eN)) (eP eN eN) eB f16 := at2 y16 fun d hd a1 a2 kr => by
  have hC := monoC (T := T) (bs := bs) (mt := mt) d
  have hQ := clo_Rt (er := eB) (kn_pu pu_B) (k := kr)
  refine J_cast (σ := [.sh ((eT (eP eN eN)) a1), .sh ((eP eN eN) a2)]) rfl ?_
  unfold b16 f16
  refine J_expr (ρ := [.sh ((eT (eP eN eN)) a1), .sh ((eP eN eN) a2)]) (ma := (fun k => f11 a1 fun v3 => TC.V v3 k)) (E_conv (E_call1 (f := f11) (ee := eU) (o11 d (Nat.le_trans (by decide) hd)) (E_var (i := 0) (ea := (eT (eP eN eN))) (x := a1) rfl)) (by with_reducible rfl)) ?_
  refine J_if1 (ρ := [.sh ((eT (eP eN eN)) a1), .sh ((eP eN eN) a2)]) (ma := (fun k => isrF a2 fun v6 => orC (nB v6) (fun k => orC (Nat.blt a2.1 (0 : Nat)) (fun k => f9 (1, 1) a2 fun v4 => TC.V v4 k) fun v5 => TC.V v5 k) fun v7 => TC.V v7 k)) tru_B (E_conv (E_or (E_not tru_B (E_call1 (f := isrF) (ee := eB) (w_is_ratio d (Nat.le_trans (by decide) hd)) (E_var (i := 1) (ea := (eP eN eN)) (x := a2) rfl))) (E_or (E_cmp cm_lt (E_subk sk_0 (E_var (i := 1) (ea := (eP eN eN)) (x := a2) rfl)) (E_num 0)) (E_one (E_call2 (f := f9) (ee := eB) (o9 d (Nat.le_trans (by decide) hd)) (E_glob (j := 1) (d := .tuple [.int 1, .int 1]) (ea := (eP eN eN)) ((1, 1) : (Nat × Nat)) rfl) (E_var (i := 1) (ea := (eP eN eN)) (x := a2) rfl))))) (by with_reducible rfl)) ?_ ?_
  ·
    exact J_ret (ρ := [.sh ((eT (eP eN eN)) a1), .sh ((eP eN eN) a2)]) (kr := kr) (Q := Rt eB kr) (ma := (TC.V false)) (ea := eB) (E_conv (E_bl false) (by with_reducible rfl)) (fun x h => ⟨x, rfl, h⟩)
  ·
    exact J_ret (ρ := [.sh ((eT (eP eN eN)) a1), .sh ((eP eN eN) a2)]) (kr := kr) (Q := Rt eB kr) (ma := (fun k => f13 a1 a2 fun v8 => f9 a2 v8 fun v9 => TC.V (nB v9) k)) (ea := eB) (E_conv (E_not tru_B (E_call2 (f := f9) (ee := eB) (o9 d (Nat.le_trans (by decide) hd)) (E_var (i := 1) (ea := (eP eN eN)) (x := a2) rfl) (E_call2 (f := f13) (ee := (eP eN eN)) (o13 d (Nat.le_trans (by decide) hd)) (E_var (i := 0) (ea := (eT (eP eN eN))) (x := a1) rfl) (E_var (i := 1) (ea := (eP eN eN)) (x := a2) rfl)))) (by with_reducible rfl)) (fun x h => ⟨x, rfl, h⟩)
/-- is_family -/
noncomputable def f21 (a1 : (List Nat)) : C Bool := fun kr =>
  orC (nB true) (fun k => orC (Nat.beq (TC.lenN a1) (0 : Nat)) (fun k => allC (fun (x2 : Nat) => (fun k => who2 x2 (0 : Nat) fun v3 => TC.V v3 k)) a1 fun v4 => TC.V (nB v4) k) fun v6 => TC.V v6 k) fun v7 => TC.V v7 fun x => cB x ( TC.V false kr) ( TC.V (Int.ofNat (1 : Nat)) fun v8 =>  TC.V (enumN 0 a1) fun xs => forC (S := Int) (fun (x11 : (Nat × Nat)) s9 j10 =>  TC.V (leF s9 (Int.ofNat (0 : Nat))) fun x => cB x ( TC.V false kr) (subZ x11.2 (1 : Nat) fun v12 => TC.V v12 fun y => addI s9 y fun v13 => j10 v13)) xs v8 fun s9 =>  TC.V (eqI s9 (Int.ofNat (0 : Nat))) kr)
theorem y21 : Q.Has T bs 21 5 b21 1 [] := ⟨rfl, _, rfl, rfl, rfl⟩
theorem o21 : At1 T bs mt 2 21 (eT eN) eB f21 := at1 y21 fun d hd a1 kr => by
  have hC := monoC (T := T) (bs := bs) (mt := mt) d
  have hQ := clo_Rt (er := eB) (kn_pu pu_B) (k := kr)
  refine J_cast (σ := [.sh ((eT eN) a1), .un, .un, .un, .un]) rfl ?_
  unfold b21 f21
  refine J_if1 (ρ := [.sh ((eT eN) a1), .un, .un, .un, .un]) (ma := (fun k => orC (nB true) (fun k => orC (Nat.beq (TC.lenN a1) (0 : Nat)) (fun k => allC (fun (x2 : Nat) => (fun k => who2 x2 (0 : Nat) fun v3 => TC.V v3 k)) a1 fun v4 => TC.V (nB v4) k) fun v6 => TC.V v6 k) fun v7 => TC.V v7 k)) tru_B (E_conv (E_or (E_not tru_B (E_isi is_T (E_var (i := 0) (ea := (eT eN)) (x := a1) rfl))) (E_or (E_cmp (cm_eq eb_N (by decide)) (E_blt1 bl_lenT (E_var (i := 0) (ea := (eT eN)) (x := a1) rfl)) (E_num 0)) (E_one (E_not tru_B (E_all (own := [3]) (tg := (.one 3)) (ex := eN) (E := fun x2 => [.sh ((eT eN) a1), .un, .un, .sh (eN x2), .un]) (E_iseqT (ea := eN) (E_var (i := 0) (ea := (eT eN)) (x := a1) rfl)) (fun _ => rfl) (fun x2 => (E_call2 (f := who2) (ee := eB) (w_is_whole2 d (Nat.le_trans (by decide) hd)) (E_var (i := 3) (ea := eN) (x := x2) rfl) (E_num 0)))))))) (by with_reducible rfl)) ?_ ?_
  ·
    exact J_ret (ρ := [.sh ((eT eN) a1), .un, .un, .un, .un]) (kr := kr) (Q := Rt eB kr) (ma := (TC.V false)) (ea := eB) (E_conv (E_bl false) (by with_reducible rfl)) (fun x h => ⟨x, rfl, h⟩)
  ·
    refine J_setz (ρ := [.sh ((eT eN) a1), .un, .un, .un, .un]) (i := 1) (fz := []) (ma := (TC.V (Int.ofNat (1 : Nat)))) (ea := eI) (E_conv (E_co (ea := eN) (eb := eI) Int.ofNat (fun _ => rfl) (E_num 1)) (by with_reducible rfl)) (fun v8 => (J_cast (σ := [.sh ((eT eN) a1), .sh (eI v8), .un, .un, .un]) rfl ?_))
    refine J_for (ρ := [.sh ((eT eN) a1), .sh (eI v8), .un, .un, .un]) (t := (.many [4, 2])) (fz := []) (S := Int) (X := (Nat × Nat)) (ex := (eP eN eN)) (E := fun s9 => [.sh ((eT eN) a1), .sh (eI s9), .un, .un, .un]) (Eb := fun x11 s9 => [.sh ((eT eN) a1), .sh (eI s9), .sh (eN x11.2), .un, .sh (eN x11.1)]) (s0 := v8) (mx := (TC.V (enumN 0 a1))) hC mono_c hQ (E_conv (E_ienumT (ea := eN) (E_var (i := 0) (ea := (eT eN)) (x := a1) rfl)) (by with_reducible rfl)) (fk_msk (m := [false, false, false, false, false]) rfl) (fun _ _ => rfl) (fun x11 s9 j10 => ?_) (fun s9 => ?_)
    ·
      refine J_if1 (ρ := [.sh ((eT eN) a1), .sh (eI s9), .sh (eN x11.2), .un, .sh (eN x11.1)]) (ma := (TC.V (leF s9 (Int.ofNat (0 : Nat))))) tru_B (E_conv (E_cmp cm_leI (E_var (i := 1) (ea := eI) (x := s9) rfl) (E_co (ea := eN) (eb := eI) Int.ofNat (fun _ => rfl) (E_num 0))) (by with_reducible rfl)) ?_ ?_
      ·
        exact J_ret (ρ := [.sh ((eT eN) a1), .sh (eI s9), .sh (eN x11.2), .un, .sh (eN x11.1)]) (kr := kr) (Q := Rt eB kr) (ma := (TC.V false)) (ea := eB) (E_conv (E_bl false) (by with_reducible rfl)) (fun x h => ⟨x, rfl, h⟩)
      ·
        refine J_aug (ρ := [.sh ((eT eN) a1), .sh (eI s9), .sh (eN x11.2), .un, .sh (eN x11.1)]) (i := 1) (ma := (fun k => subZ x11.2 (1 : Nat) fun v12 => TC.V v12 k)) (ea := eI) (g := id) (f := addI) (x := s9) rfl (fun _ => rfl) (E_conv (E_bin op_subZ (E_var (i := 2) (ea := eN) (x := x11.2) rfl) (E_num 1)) (by with_reducible rfl)) (fun y k h => ag_addI _ y k h) (fun v13 => (J_cast (σ := [.sh ((eT eN) a1), .sh (eI v13), .sh (eN x11.2), .un, .sh (eN x11.1)]) rfl ?_))
        exact J_done (fun h => ⟨v13, fk_msk (m := [false, false, true, false, true]) rfl, h⟩)
    ·
      exact J_ret (ρ := [.sh ((eT eN) a1), .sh (eI s9), .un, .un, .un]) (kr := kr) (Q := Rt eB kr) (ma := (TC.V (eqI s9 (Int.ofNat (0 : Nat))))) (ea := eB) (E_conv (E_cmp (cm_eq eb_I (by decide)) (E_var (i := 1) (ea := eI) (x := s9) rfl) (E_co (ea := eN) (eb := eI) Int.ofNat (fun _ => rfl) (E_num 0))) (by with_reducible rfl)) (fun x h => ⟨x, rfl, h⟩)
/-- mean -/
noncomputable def f12 (a1 : (List (Nat × Nat))) : C (Nat × Nat) := fun kr =>
  f11 a1 fun v2 => TC.V v2 fun _ => lcA (fun (x3 : (Nat × (Nat × Nat))) => (fun k => rat1 x3.1 fun v4 => mulF x3.2 v4 fun v5 => TC.V v5 k)) (enumN 0 a1) 0 fun v6 => totF v6 fun v7 => TC.V v7 kr
theorem y12 : Q.Has T bs 12 3 b12 1 [] := ⟨rfl, _, rfl, rfl, rfl⟩
theorem o12 : At1 T bs mt 7 12 (eT (eP eN eN)) (eP eN eN) f12 := at1 y12 fun d hd a1 kr => by
  have hC := monoC (T := T) (bs := bs) (mt := mt) d
  have hQ := clo_Rt (er := (eP eN eN)) (kn_pu (pu_P pu_N pu_N)) (k := kr)
  refine J_cast (σ := [.sh ((eT (eP eN eN)) a1), .un, .un]) rfl ?_
  unfold b12 f12
  refine J_expr (ρ := [.sh ((eT (eP eN eN)) a1), .un, .un]) (ma := (fun k => f11 a1 fun v2 => TC.V v2 k)) (E_conv (E_call1 (f := f11) (ee := eU) (o11 d (Nat.le_trans (by decide) hd)) (E_var (i := 0) (ea := (eT (eP eN eN))) (x := a1) rfl)) (by with_reducible rfl)) ?_
  exact J_ret (ρ := [.sh ((eT (eP eN eN)) a1), .un, .un]) (kr := kr) (Q := Rt (eP eN eN) kr) (ma := (fun k => lcA (fun (x3 : (Nat × (Nat × Nat))) => (fun k => rat1 x3.1 fun v4 => mulF x3.2 v4 fun v5 => TC.V v5 k)) (enumN 0 a1) 0 fun v6 => totF v6 fun v7 => TC.V v7 k)) (ea := (eP eN eN)) (E_conv (E_call1 (f := totF) (ee := (eP eN eN)) (w_totalL d (Nat.le_trans (by decide) hd)) (E_lca (own := [1, 2]) (tg := (.many [1, 2])) (ex := (eP eN (eP eN eN))) (ey := (eP eN eN)) (E := fun x3 => [.sh ((eT (eP eN eN)) a1), .sh (eN x3.1), .sh ((eP eN eN) x3.2)]) (E_ienumT (ea := (eP eN eN)) (E_var (i := 0) (ea := (eT (eP eN eN))) (x := a1) rfl)) (fun _ => rfl) (fun x3 => (E_call2 (f := mulF) (ee := (eP eN eN)) (w_times d (Nat.le_trans (by decide) hd)) (E_var (i := 2) (ea := (eP eN eN)) (x := x3.2) rfl) (E_call1 (f := rat1) (ee := (eP eN eN)) (w_ratio1 d (Nat.le_trans (by decide) hd)) (E_var (i := 1) (ea := eN) (x := x3.1) rfl)))))) (by with_reducible rfl)) (fun x h => ⟨x, rfl, h⟩)
/-- mean_born -/
noncomputable def f18 (a1 : (List (Nat × Nat))) : C (Int × Nat) := fun kr =>
  f11 a1 fun v2 => TC.V v2 fun _ => f12 a1 fun v4 => lessZ ((fun (p : (Nat × Nat)) => (Int.ofNat p.1, p.2)) (1, 1)) ((fun (p : (Nat × Nat)) => (Int.ofNat p.1, p.2)) v4) fun v5 => TC.V v5 fun v3 =>  TC.V (leF v3.1 (Int.ofNat (0 : Nat))) fun x => cB x (false) (overZ ((fun (p : (Nat × Nat)) => (Int.ofNat p.1, p.2)) (1, 1)) v3 fun v6 => TC.V v6 kr)
theorem y18 : Q.Has T bs 18 2 b18 1 [] := ⟨rfl, _, rfl, rfl, rfl⟩
theorem o18 : At1 T bs mt 8 18 (eT (eP eN eN)) (eP eI eN) f18 := at1 y18 fun d hd a1 kr => by
  have hC := monoC (T := T) (bs := bs) (mt := mt) d
  have hQ := clo_Rt (er := (eP eI eN)) (kn_pu (pu_P pu_I pu_N)) (k := kr)
  refine J_cast (σ := [.sh ((eT (eP eN eN)) a1), .un]) rfl ?_
  unfold b18 f18
  refine J_expr (ρ := [.sh ((eT (eP eN eN)) a1), .un]) (ma := (fun k => f11 a1 fun v2 => TC.V v2 k)) (E_conv (E_call1 (f := f11) (ee := eU) (o11 d (Nat.le_trans (by decide) hd)) (E_var (i := 0) (ea := (eT (eP eN eN))) (x := a1) rfl)) (by with_reducible rfl)) ?_
  refine J_setz (ρ := [.sh ((eT (eP eN eN)) a1), .un]) (i := 1) (fz := []) (ma := (fun k => f12 a1 fun v4 => lessZ ((fun (p : (Nat × Nat)) => (Int.ofNat p.1, p.2)) (1, 1)) ((fun (p : (Nat × Nat)) => (Int.ofNat p.1, p.2)) v4) fun v5 => TC.V v5 k)) (ea := (eP eI eN)) (E_conv (E_call2 (f := lessZ) (ee := (eP eI eN)) (w_lessZ d (Nat.le_trans (by decide) hd)) (E_co (ea := (eP eN eN)) (eb := (eP eI eN)) (fun (p : (Nat × Nat)) => (Int.ofNat p.1, p.2)) (fun _ => rfl) (E_glob (j := 1) (d := .tuple [.int 1, .int 1]) (ea := (eP eN eN)) ((1, 1) : (Nat × Nat)) rfl)) (E_co (ea := (eP eN eN)) (eb := (eP eI eN)) (fun (p : (Nat × Nat)) => (Int.ofNat p.1, p.2)) (fun _ => rfl) (E_call1 (f := f12) (ee := (eP eN eN)) (o12 d (Nat.le_trans (by decide) hd)) (E_var (i := 0) (ea := (eT (eP eN eN))) (x := a1) rfl)))) (by with_reducible rfl)) (fun v3 => (J_cast (σ := [.sh ((eT (eP eN eN)) a1), .sh ((eP eI eN) v3)]) rfl ?_))
  refine J_if1 (ρ := [.sh ((eT (eP eN eN)) a1), .sh ((eP eI eN) v3)]) (ma := (TC.V (leF v3.1 (Int.ofNat (0 : Nat))))) tru_B (E_conv (E_cmp cm_leI (E_subk sk_0 (E_var (i := 1) (ea := (eP eI eN)) (x := v3) rfl)) (E_co (ea := eN) (eb := eI) Int.ofNat (fun _ => rfl) (E_num 0))) (by with_reducible rfl)) ?_ ?_
  ·
    exact J_false
  ·
    exact J_ret (ρ := [.sh ((eT (eP eN eN)) a1), .sh ((eP eI eN) v3)]) (kr := kr) (Q := Rt (eP eI eN) kr) (ma := (fun k => overZ ((fun (p : (Nat × Nat)) => (Int.ofNat p.1, p.2)) (1, 1)) v3 fun v6 => TC.V v6 k)) (ea := (eP eI eN)) (E_conv (E_call2 (f := overZ) (ee := (eP eI eN)) (w_overZ d (Nat.le_trans (by decide) hd)) (E_co (ea := (eP eN eN)) (eb := (eP eI eN)) (fun (p : (Nat × Nat)) => (Int.ofNat p.1, p.2)) (fun _ => rfl) (E_glob (j := 1) (d := .tuple [.int 1, .int 1]) (ea := (eP eN eN)) ((1, 1) : (Nat × Nat)) rfl)) (E_var (i := 1) (ea := (eP eI eN)) (x := v3) rfl)) (by with_reducible rfl)) (fun x h => ⟨x, rfl, h⟩)
/-- whole_chance -/
noncomputable def f22 (a1 : (List (Nat × Nat))) (a2 : Nat) : C (Nat × Nat) := fun kr =>
  who2 a2 (1 : Nat) fun v3 => orC (nB v3) (TC.V (Nat.blt (20 : Nat) a2)) fun v4 => TC.V v4 fun x => cB x (false) (G (Nat.blt (1 : Nat) 4611686018427387904) <| G (Nat.blt (Nat.add a2 (1 : Nat)) 4611686018427387904) <| lcA (fun (x6 : Nat) => (fun k => f17 a1 x6 fun v7 => TC.V v7 k)) (upto (Nat.sub (Nat.add a2 (1 : Nat)) (1 : Nat)) (1 : Nat)) 0 fun v8 => totF v8 fun v9 => TC.V v9 kr)
theorem y22 : Q.Has T bs 22 3 b22 2 [] := ⟨rfl, _, rfl, rfl, rfl⟩
theorem o22 : At2 T bs mt 8 22 (eT (eP eN eN)) eN (eP eN eN) f22 := at2 y22 fun d hd a1 a2 kr => by
  have hC := monoC (T := T) (bs := bs) (mt := mt) d
  have hQ := clo_Rt (er := (eP eN eN)) (kn_pu (pu_P pu_N pu_N)) (k := kr)
  refine J_cast (σ := [.sh ((eT (eP eN eN)) a1), .sh (eN a2), .un]) rfl ?_
  unfold b22 f22
  refine J_if1 (ρ := [.sh ((eT (eP eN eN)) a1), .sh (eN a2), .un]) (ma := (fun k => who2 a2 (1 : Nat) fun v3 => orC (nB v3) (TC.V (Nat.blt (20 : Nat) a2)) fun v4 => TC.V v4 k)) tru_B (E_conv (E_or (E_not tru_B (E_call2 (f := who2) (ee := eB) (w_is_whole2 d (Nat.le_trans (by decide) hd)) (E_var (i := 1) (ea := eN) (x := a2) rfl) (E_num 1))) (E_one (E_cmp cm_gt (E_var (i := 1) (ea := eN) (x := a2) rfl) (E_num 20)))) (by with_reducible rfl)) ?_ ?_
  ·
    exact J_false
  ·
    exact J_ret (ρ := [.sh ((eT (eP eN eN)) a1), .sh (eN a2), .un]) (kr := kr) (Q := Rt (eP eN eN) kr) (ma := (fun k => G (Nat.blt (1 : Nat) 4611686018427387904) <| G (Nat.blt (Nat.add a2 (1 : Nat)) 4611686018427387904) <| lcA (fun (x6 : Nat) => (fun k => f17 a1 x6 fun v7 => TC.V v7 k)) (upto (Nat.sub (Nat.add a2 (1 : Nat)) (1 : Nat)) (1 : Nat)) 0 fun v8 => totF v8 fun v9 => TC.V v9 k)) (ea := (eP eN eN)) (E_conv (E_call1 (f := totF) (ee := (eP eN eN)) (w_totalL d (Nat.le_trans (by decide) hd)) (E_lca (own := [2]) (tg := (.one 2)) (ex := eN) (ey := (eP eN eN)) (E := fun x6 => [.sh ((eT (eP eN eN)) a1), .sh (eN a2), .sh (eN x6)]) (E_ir2 (E_num 1) (E_bin op_addN (E_var (i := 1) (ea := eN) (x := a2) rfl) (E_num 1))) (fun _ => rfl) (fun x6 => (E_call2 (f := f17) (ee := (eP eN eN)) (o17 d (Nat.le_trans (by decide) hd)) (E_var (i := 0) (ea := (eT (eP eN eN))) (x := a1) rfl) (E_var (i := 2) (ea := eN) (x := x6) rfl))))) (by with_reducible rfl)) (fun x h => ⟨x, rfl, h⟩)
/-- word_chance -/
noncomputable def f20 (a1 : (List (Nat × Nat))) (a2 : (List Nat)) : C (Nat × Nat) := fun kr =>
  f11 a1 fun v3 => TC.V v3 fun _ =>  TC.V (1, 1) fun v4 =>  TC.V a2 fun xs => forC (S := (Nat × Nat)) (fun (x7 : Nat) s5 j6 => iteC (Nat.blt x7 (TC.lenN a1)) (fun k => subL a1 x7 fun v10 => TC.V v10 k) (TC.V (0, 1)) fun v11 => mulF s5 v11 fun v12 => TC.V v12 fun v8 => j6 v8) xs v4 fun s5 =>  TC.V s5 kr
theorem y20 : Q.Has T bs 20 4 b20 2 [] := ⟨rfl, _, rfl, rfl, rfl⟩
theorem o20 : At2 T bs mt 7 20 (eT (eP eN eN)) (eT eN) (eP eN eN) f20 := at2 y20 fun d hd a1 a2 kr => by
  have hC := monoC (T := T) (bs := bs) (mt := mt) d
  have hQ := clo_Rt (er := (eP eN eN)) (kn_pu (pu_P pu_N pu_N)) (k := kr)
  refine J_cast (σ := [.sh ((eT (eP eN eN)) a1), .sh ((eT eN) a2), .un, .un]) rfl ?_
  unfold b20 f20
  refine J_expr (ρ := [.sh ((eT (eP eN eN)) a1), .sh ((eT eN) a2), .un, .un]) (ma := (fun k => f11 a1 fun v3 => TC.V v3 k)) (E_conv (E_call1 (f := f11) (ee := eU) (o11 d (Nat.le_trans (by decide) hd)) (E_var (i := 0) (ea := (eT (eP eN eN))) (x := a1) rfl)) (by with_reducible rfl)) ?_
  refine J_setz (ρ := [.sh ((eT (eP eN eN)) a1), .sh ((eT eN) a2), .un, .un]) (i := 3) (fz := []) (ma := (TC.V (1, 1))) (ea := (eP eN eN)) (E_conv (E_glob (j := 1) (d := .tuple [.int 1, .int 1]) (ea := (eP eN eN)) ((1, 1) : (Nat × Nat)) rfl) (by with_reducible rfl)) (fun v4 => (J_cast (σ := [.sh ((eT (eP eN eN)) a1), .sh ((eT eN) a2), .un, .sh ((eP eN eN) v4)]) rfl ?_))
  refine J_for (ρ := [.sh ((eT (eP eN eN)) a1), .sh ((eT eN) a2), .un, .sh ((eP eN eN) v4)]) (t := (.one 2)) (fz := []) (S := (Nat × Nat)) (X := Nat) (ex := eN) (E := fun s5 => [.sh ((eT (eP eN eN)) a1), .sh ((eT eN) a2), .un, .sh ((eP eN eN) s5)]) (Eb := fun x7 s5 => [.sh ((eT (eP eN eN)) a1), .sh ((eT eN) a2), .sh (eN x7), .sh ((eP eN eN) s5)]) (s0 := v4) (mx := (TC.V a2)) hC mono_c hQ (E_conv (E_iseqT (ea := eN) (E_var (i := 1) (ea := (eT eN)) (x := a2) rfl)) (by with_reducible rfl)) (fk_msk (m := [false, false, false, false]) rfl) (fun _ _ => rfl) (fun x7 s5 j6 => ?_) (fun s5 => ?_)
  ·
    refine J_setz (ρ := [.sh ((eT (eP eN eN)) a1), .sh ((eT eN) a2), .sh (eN x7), .sh ((eP eN eN) s5)]) (i := 3) (fz := []) (ma := (fun k => iteC (Nat.blt x7 (TC.lenN a1)) (fun k => subL a1 x7 fun v10 => TC.V v10 k) (TC.V (0, 1)) fun v11 => mulF s5 v11 fun v12 => TC.V v12 k)) (ea := (eP eN eN)) (E_conv (E_call2 (f := mulF) (ee := (eP eN eN)) (w_times d (Nat.le_trans (by decide) hd)) (E_var (i := 3) (ea := (eP eN eN)) (x := s5) rfl) (E_ite (eb := (eP eN eN)) tru_B (E_cmp cm_lt (E_var (i := 2) (ea := eN) (x := x7) rfl) (E_blt1 bl_lenT (E_var (i := 0) (ea := (eT (eP eN eN))) (x := a1) rfl))) (E_sub (ec := (eP eN eN)) sb_T (E_var (i := 0) (ea := (eT (eP eN eN))) (x := a1) rfl) (E_var (i := 2) (ea := eN) (x := x7) rfl)) (E_glob (j := 0) (d := .tuple [.int 0, .int 1]) (ea := (eP eN eN)) ((0, 1) : (Nat × Nat)) rfl))) (by with_reducible rfl)) (fun v8 => (J_cast (σ := [.sh ((eT (eP eN eN)) a1), .sh ((eT eN) a2), .sh (eN x7), .sh ((eP eN eN) v8)]) rfl ?_))
    exact J_done (fun h => ⟨v8, fk_msk (m := [false, false, true, false]) rfl, h⟩)
  ·
    exact J_ret (ρ := [.sh ((eT (eP eN eN)) a1), .sh ((eT eN) a2), .un, .sh ((eP eN eN) s5)]) (kr := kr) (Q := Rt (eP eN eN) kr) (ma := (TC.V s5)) (ea := (eP eN eN)) (E_conv (E_var (i := 3) (ea := (eP eN eN)) (x := s5) rfl) (by with_reducible rfl)) (fun x h => ⟨x, rfl, h⟩)
end K20
namespace K20
open PySem PySem.Spec PyProof.Rows L2 DL DL.TC
abbrev E1 (ds : List Int) (s : Unit) : DL.Env := [.un, .un, .un, .un, .un, .un, .un, .un, .un, .un, .un, .un, .un, .un, .sh ((eW ds) ()), .un, .un, .un, .un]
abbrev E1' (ds : List Int) (t : (List (Nat × Nat)) × Nat) : DL.Env := [.un, .un, .sh ((eT (eP eN eN)) t.1), .un, .un, .un, .un, .un, .un, .un, .un, .un, .un, .un, .sh ((eW ds) ()), .sh (eN t.2), .un, .un, .un]
noncomputable def p1 (s : Unit) (jj : (List (Nat × Nat)) × Nat → Bool) : Bool :=
  drawC 30 (0 : Nat) (4 : Nat) fun v3 => f31 () (1 : Nat) (Nat.add v3 (1 : Nat)) fun v4 => TC.V v4 fun v1 => drawC 30 (6 : Nat) (6 : Nat) fun v7 => TC.V (Nat.add v7 (1 : Nat)) fun v5 => jj (v1, v5)
theorem q1 (ds : List Int) (hds : ds.length = 30) (d : Nat) (hd : 3 ≤ d) (s : Unit) (jj : (List (Nat × Nat)) × Nat → Bool) : J (callT T (runs T bs mt d)) mt (E1 ds s) g1 (p1 s jj) (Nx (fun t => E1' ds t) jj) (fun _ => False) := by
  refine J_Q (Q := Rt eB (fun _ => false)) (fun _ ⟨_, _, h⟩ => by cases h) ?_
  have hC := monoC (T := T) (bs := bs) (mt := mt) d
  have hQ := clo_Rt (er := eB) (kn_pu pu_B) (k := fun _ => false)
  unfold g1 p1
  refine J_setz (ρ := [.un, .un, .un, .un, .un, .un, .un, .un, .un, .un, .un, .un, .un, .un, .sh ((eW ds) ()), .un, .un, .un, .un]) (i := 2) (fz := []) (ma := (fun k => drawC 30 (0 : Nat) (4 : Nat) fun v3 => f31 () (1 : Nat) (Nat.add v3 (1 : Nat)) fun v4 => TC.V v4 k)) (ea := (eT (eP eN eN))) (E_conv (E_call3 (f := f31) (ee := (eT (eP eN eN))) (o31 ds hds d (Nat.le_trans (by decide) hd)) (E_var (i := 14) (ea := (eW ds)) (x := ()) rfl) (E_num 1) (E_bin op_addN (E_drawn (i := 14) (ds := ds) rfl hds (E_num 0) (E_num 4)) (E_num 1))) (by with_reducible rfl)) (fun v1 => (J_cast (σ := [.un, .un, .sh ((eT (eP eN eN)) v1), .un, .un, .un, .un, .un, .un, .un, .un, .un, .un, .un, .sh ((eW ds) ()), .un, .un, .un, .un]) rfl ?_))
  refine J_setz (ρ := [.un, .un, .sh ((eT (eP eN eN)) v1), .un, .un, .un, .un, .un, .un, .un, .un, .un, .un, .un, .sh ((eW ds) ()), .un, .un, .un, .un]) (i := 15) (fz := []) (ma := (fun k => drawC 30 (6 : Nat) (6 : Nat) fun v7 => TC.V (Nat.add v7 (1 : Nat)) k)) (ea := eN) (E_conv (E_bin op_addN (E_drawn (i := 14) (ds := ds) rfl hds (E_num 6) (E_num 6)) (E_num 1)) (by with_reducible rfl)) (fun v5 => (J_cast (σ := [.un, .un, .sh ((eT (eP eN eN)) v1), .un, .un, .un, .un, .un, .un, .un, .un, .un, .un, .un, .sh ((eW ds) ()), .sh (eN v5), .un, .un, .un]) rfl ?_))
  exact J_done (fun h => ⟨(v1, v5), fk_msk (m := [false, false, false, false, false, false, false, false, false, false, false, false, false, false, false, false, false, false, false]) rfl, h⟩)
abbrev E2 (ds : List Int) (s : (List (Nat × Nat)) × Nat) : DL.Env := [.un, .un, .sh ((eT (eP eN eN)) s.1), .un, .un, .un, .un, .un, .un, .un, .un, .un, .un, .un, .sh ((eW ds) ()), .sh (eN s.2), .un, .un, .un]
abbrev E2' (ds : List Int) (t : (List (Nat × Nat)) × Nat) : DL.Env := [.un, .un, .sh ((eT (eP eN eN)) t.1), .un, .un, .un, .un, .un, .un, .un, .un, .un, .un, .un, .sh ((eW ds) ()), .sh (eN t.2), .un, .un, .un]
noncomputable def p2 (s : (List (Nat × Nat)) × Nat) (jj : (List (Nat × Nat)) × Nat → Bool) : Bool :=
   TC.V ((0 : Nat), (1 : Nat)) fun v1 => G (Nat.blt (1 : Nat) 4611686018427387904) <| G (Nat.blt (Nat.add s.2 (1 : Nat)) 4611686018427387904) <| TC.V (upto (Nat.sub (Nat.add s.2 (1 : Nat)) (1 : Nat)) (1 : Nat)) fun xs => forC (S := (Nat × Nat)) (fun (x5 : Nat) s3 j4 => f19 x5 fun v7 => TC.V v7 fun v6 => lcA (fun (x9 : (List Nat)) => (fun k => f20 s.1 x9 fun v10 => TC.V v10 k)) v6 0 fun v11 => totF v11 fun v12 => TC.V v12 fun v8 =>  TC.V (((1 : Nat), (1 : Nat)) :: ([] : List (Nat × Nat))) fun v13 => G (Nat.blt x5 4611686018427387904) <| TC.V (upto x5 0) fun xs => forC (S := (List (Nat × Nat))) (fun (x17 : Nat) s15 j16 => f32 s15 s.1 fun v19 => TC.V v19 fun v18 => j16 v18) xs v13 fun s15 => lowC (1 : Nat) x5 fun v21 => subN x5 (1 : Nat) fun v22 => iteC (Nat.blt v22 (TC.lenN s15)) (fun k => subN x5 (1 : Nat) fun v25 => subL s15 v25 fun v24 => TC.V v24 k) (TC.V ((0 : Nat), (1 : Nat))) fun v26 => mulF v21 v26 fun v27 => TC.V v27 fun v20 => orC (nB ((eqPr Nat.beq Nat.beq) v8 v20)) (fun k => f17 s.1 x5 fun v28 => TC.V (nB ((eqPr Nat.beq Nat.beq) v28 v8)) k) fun v29 => TC.V v29 fun x => cB x ( TC.V false (fun _ => false)) (addF s3 v8 fun v31 => TC.V v31 fun v30 => j4 v30)) xs v1 fun s3 => f22 s.1 s.2 fun v33 => orC (nB ((eqPr Nat.beq Nat.beq) v33 s3)) (fun k => underF ((1 : Nat), (1 : Nat)) s3 fun v32 => TC.V v32 k) fun v34 => TC.V v34 fun x => cB x ( TC.V false (fun _ => false)) (drawC 30 (7 : Nat) (6 : Nat) fun v36 => lowC v36 (5 : Nat) fun v37 => TC.V v37 fun v35 => f16 s.1 v35 fun v39 => andC v39 (fun k => underF v35 s3 fun v38 => TC.V v38 k) fun v40 => TC.V v40 fun x => cB x ( TC.V false (fun _ => false)) (jj (s.1, s.2)))
theorem q2 (ds : List Int) (hds : ds.length = 30) (d : Nat) (hd : 8 ≤ d) (s : (List (Nat × Nat)) × Nat) (jj : (List (Nat × Nat)) × Nat → Bool) : J (callT T (runs T bs mt d)) mt (E2 ds s) g2 (p2 s jj) (Nx (fun t => E2' ds t) jj) (fun _ => False) := by
  refine J_Q (Q := Rt eB (fun _ => false)) (fun _ ⟨_, _, h⟩ => by cases h) ?_
  have hC := monoC (T := T) (bs := bs) (mt := mt) d
  have hQ := clo_Rt (er := eB) (kn_pu pu_B) (k := fun _ => false)
  unfold g2 p2
  refine J_setz (ρ := [.un, .un, .sh ((eT (eP eN eN)) s.1), .un, .un, .un, .un, .un, .un, .un, .un, .un, .un, .un, .sh ((eW ds) ()), .sh (eN s.2), .un, .un, .un]) (i := 11) (fz := []) (ma := (TC.V ((0 : Nat), (1 : Nat)))) (ea := (eP eN eN)) (E_conv (E_tup (E_es2 (E_num 0) (E_num 1))) (by with_reducible rfl)) (fun v1 => (J_cast (σ := [.un, .un, .sh ((eT (eP eN eN)) s.1), .un, .un, .un, .un, .un, .un, .un, .un, .sh ((eP eN eN) v1), .un, .un, .sh ((eW ds) ()), .sh (eN s.2), .un, .un, .un]) rfl ?_))
  refine J_for (ρ := [.un, .un, .sh ((eT (eP eN eN)) s.1), .un, .un, .un, .un, .un, .un, .un, .un, .sh ((eP eN eN) v1), .un, .un, .sh ((eW ds) ()), .sh (eN s.2), .un, .un, .un]) (t := (.one 5)) (fz := []) (S := (Nat × Nat)) (X := Nat) (ex := eN) (E := fun s3 => [.un, .un, .sh ((eT (eP eN eN)) s.1), .un, .un, .un, .un, .un, .un, .un, .un, .sh ((eP eN eN) s3), .un, .un, .sh ((eW ds) ()), .sh (eN s.2), .un, .un, .un]) (Eb := fun x5 s3 => [.un, .un, .sh ((eT (eP eN eN)) s.1), .un, .un, .sh (eN x5), .un, .un, .un, .un, .un, .sh ((eP eN eN) s3), .un, .un, .sh ((eW ds) ()), .sh (eN s.2), .un, .un, .un]) (s0 := v1) (mx := (fun k => G (Nat.blt (1 : Nat) 4611686018427387904) <| G (Nat.blt (Nat.add s.2 (1 : Nat)) 4611686018427387904) <| TC.V (upto (Nat.sub (Nat.add s.2 (1 : Nat)) (1 : Nat)) (1 : Nat)) k)) hC mono_Nx hQ (E_conv (E_ir2 (E_num 1) (E_bin op_addN (E_var (i := 15) (ea := eN) (x := s.2) rfl) (E_num 1))) (by with_reducible rfl)) (fk_msk (m := [false, false, false, false, false, false, false, false, false, false, false, false, false, false, false, false, false, false, false]) rfl) (fun _ _ => rfl) (fun x5 s3 j4 => ?_) (fun s3 => ?_)
  ·
    refine J_setz (ρ := [.un, .un, .sh ((eT (eP eN eN)) s.1), .un, .un, .sh (eN x5), .un, .un, .un, .un, .un, .sh ((eP eN eN) s3), .un, .un, .sh ((eW ds) ()), .sh (eN s.2), .un, .un, .un]) (i := 12) (fz := []) (ma := (fun k => f19 x5 fun v7 => TC.V v7 k)) (ea := (eT (eT eN))) (E_conv (E_call1 (f := f19) (ee := (eT (eT eN))) (o19 d (Nat.le_trans (by decide) hd)) (E_var (i := 5) (ea := eN) (x := x5) rfl)) (by with_reducible rfl)) (fun v6 => (J_cast (σ := [.un, .un, .sh ((eT (eP eN eN)) s.1), .un, .un, .sh (eN x5), .un, .un, .un, .un, .un, .sh ((eP eN eN) s3), .sh ((eT (eT eN)) v6), .un, .sh ((eW ds) ()), .sh (eN s.2), .un, .un, .un]) rfl ?_))
    refine J_setz (ρ := [.un, .un, .sh ((eT (eP eN eN)) s.1), .un, .un, .sh (eN x5), .un, .un, .un, .un, .un, .sh ((eP eN eN) s3), .sh ((eT (eT eN)) v6), .un, .sh ((eW ds) ()), .sh (eN s.2), .un, .un, .un]) (i := 8) (fz := []) (ma := (fun k => lcA (fun (x9 : (List Nat)) => (fun k => f20 s.1 x9 fun v10 => TC.V v10 k)) v6 0 fun v11 => totF v11 fun v12 => TC.V v12 k)) (ea := (eP eN eN)) (E_conv (E_call1 (f := totF) (ee := (eP eN eN)) (w_law_sumL d (Nat.le_trans (by decide) hd)) (E_lca (own := [3]) (tg := (.one 3)) (ex := (eT eN)) (ey := (eP eN eN)) (E := fun x9 => [.un, .un, .sh ((eT (eP eN eN)) s.1), .sh ((eT eN) x9), .un, .sh (eN x5), .un, .un, .un, .un, .un, .sh ((eP eN eN) s3), .sh ((eT (eT eN)) v6), .un, .sh ((eW ds) ()), .sh (eN s.2), .un, .un, .un]) (E_iseqT (ea := (eT eN)) (E_var (i := 12) (ea := (eT (eT eN))) (x := v6) rfl)) (fun _ => rfl) (fun x9 => (E_call2 (f := f20) (ee := (eP eN eN)) (o20 d (Nat.le_trans (by decide) hd)) (E_var (i := 2) (ea := (eT (eP eN eN))) (x := s.1) rfl) (E_var (i := 3) (ea := (eT eN)) (x := x9) rfl))))) (by with_reducible rfl)) (fun v8 => (J_cast (σ := [.un, .un, .sh ((eT (eP eN eN)) s.1), .un, .un, .sh (eN x5), .un, .un, .sh ((eP eN eN) v8), .un, .un, .sh ((eP eN eN) s3), .sh ((eT (eT eN)) v6), .un, .sh ((eW ds) ()), .sh (eN s.2), .un, .un, .un]) rfl ?_))
    refine J_setz (ρ := [.un, .un, .sh ((eT (eP eN eN)) s.1), .un, .un, .sh (eN x5), .un, .un, .sh ((eP eN eN) v8), .un, .un, .sh ((eP eN eN) s3), .sh ((eT (eT eN)) v6), .un, .sh ((eW ds) ()), .sh (eN s.2), .un, .un, .un]) (i := 1) (fz := []) (ma := (TC.V (((1 : Nat), (1 : Nat)) :: ([] : List (Nat × Nat))))) (ea := (eL (eP eN eN))) (E_conv (E_lst (ea := (eP eN eN)) (E_cons (E_tup (E_es2 (E_num 1) (E_num 1))) (E_nil (ea := (eP eN eN))))) (by with_reducible rfl)) (fun v13 => (J_cast (σ := [.un, .sh ((eL (eP eN eN)) v13), .sh ((eT (eP eN eN)) s.1), .un, .un, .sh (eN x5), .un, .un, .sh ((eP eN eN) v8), .un, .un, .sh ((eP eN eN) s3), .sh ((eT (eT eN)) v6), .un, .sh ((eW ds) ()), .sh (eN s.2), .un, .un, .un]) rfl ?_))
    refine J_for (ρ := [.un, .sh ((eL (eP eN eN)) v13), .sh ((eT (eP eN eN)) s.1), .un, .un, .sh (eN x5), .un, .un, .sh ((eP eN eN) v8), .un, .un, .sh ((eP eN eN) s3), .sh ((eT (eT eN)) v6), .un, .sh ((eW ds) ()), .sh (eN s.2), .un, .un, .un]) (t := (.one 4)) (fz := []) (S := (List (Nat × Nat))) (X := Nat) (ex := eN) (E := fun s15 => [.un, .sh ((eL (eP eN eN)) s15), .sh ((eT (eP eN eN)) s.1), .un, .un, .sh (eN x5), .un, .un, .sh ((eP eN eN) v8), .un, .un, .sh ((eP eN eN) s3), .sh ((eT (eT eN)) v6), .un, .sh ((eW ds) ()), .sh (eN s.2), .un, .un, .un]) (Eb := fun x17 s15 => [.un, .sh ((eL (eP eN eN)) s15), .sh ((eT (eP eN eN)) s.1), .un, .sh (eN x17), .sh (eN x5), .un, .un, .sh ((eP eN eN) v8), .un, .un, .sh ((eP eN eN) s3), .sh ((eT (eT eN)) v6), .un, .sh ((eW ds) ()), .sh (eN s.2), .un, .un, .un]) (s0 := v13) (mx := (fun k => G (Nat.blt x5 4611686018427387904) <| TC.V (upto x5 0) k)) hC mono_Nx hQ (E_conv (E_ir1 (E_var (i := 5) (ea := eN) (x := x5) rfl)) (by with_reducible rfl)) (fk_msk (m := [false, false, false, false, false, false, false, false, false, false, false, false, false, false, false, false, false, false, false]) rfl) (fun _ _ => rfl) (fun x17 s15 j16 => ?_) (fun s15 => ?_)
    ·
      refine J_setz (ρ := [.un, .sh ((eL (eP eN eN)) s15), .sh ((eT (eP eN eN)) s.1), .un, .sh (eN x17), .sh (eN x5), .un, .un, .sh ((eP eN eN) v8), .un, .un, .sh ((eP eN eN) s3), .sh ((eT (eT eN)) v6), .un, .sh ((eW ds) ()), .sh (eN s.2), .un, .un, .un]) (i := 1) (fz := []) (ma := (fun k => f32 s15 s.1 fun v19 => TC.V v19 k)) (ea := (eL (eP eN eN))) (E_conv (E_call2 (f := f32) (ee := (eL (eP eN eN))) (o32 d (Nat.le_trans (by decide) hd)) (E_var (i := 1) (ea := (eL (eP eN eN))) (x := s15) rfl) (E_var (i := 2) (ea := (eT (eP eN eN))) (x := s.1) rfl)) (by with_reducible rfl)) (fun v18 => (J_cast (σ := [.un, .sh ((eL (eP eN eN)) v18), .sh ((eT (eP eN eN)) s.1), .un, .sh (eN x17), .sh (eN x5), .un, .un, .sh ((eP eN eN) v8), .un, .un, .sh ((eP eN eN) s3), .sh ((eT (eT eN)) v6), .un, .sh ((eW ds) ()), .sh (eN s.2), .un, .un, .un]) rfl ?_))
      exact J_done (fun h => ⟨v18, fk_msk (m := [false, false, false, false, true, false, false, false, false, false, false, false, false, false, false, false, false, false, false]) rfl, h⟩)
    ·
      refine J_setz (ρ := [.un, .sh ((eL (eP eN eN)) s15), .sh ((eT (eP eN eN)) s.1), .un, .un, .sh (eN x5), .un, .un, .sh ((eP eN eN) v8), .un, .un, .sh ((eP eN eN) s3), .sh ((eT (eT eN)) v6), .un, .sh ((eW ds) ()), .sh (eN s.2), .un, .un, .un]) (i := 13) (fz := []) (ma := (fun k => lowC (1 : Nat) x5 fun v21 => subN x5 (1 : Nat) fun v22 => iteC (Nat.blt v22 (TC.lenN s15)) (fun k => subN x5 (1 : Nat) fun v25 => subL s15 v25 fun v24 => TC.V v24 k) (TC.V ((0 : Nat), (1 : Nat))) fun v26 => mulF v21 v26 fun v27 => TC.V v27 k)) (ea := (eP eN eN)) (E_conv (E_call2 (f := mulF) (ee := (eP eN eN)) (w_law_mul d (Nat.le_trans (by decide) hd)) (E_call2 (f := lowC) (ee := (eP eN eN)) (w_law_low d (Nat.le_trans (by decide) hd)) (E_num 1) (E_var (i := 5) (ea := eN) (x := x5) rfl)) (E_ite (eb := (eP eN eN)) tru_B (E_cmp cm_lt (E_bin op_subN (E_var (i := 5) (ea := eN) (x := x5) rfl) (E_num 1)) (E_blt1 bl_lenL (E_var (i := 1) (ea := (eL (eP eN eN))) (x := s15) rfl))) (E_sub (ec := (eP eN eN)) sb_L (E_var (i := 1) (ea := (eL (eP eN eN))) (x := s15) rfl) (E_bin op_subN (E_var (i := 5) (ea := eN) (x := x5) rfl) (E_num 1))) (E_tup (E_es2 (E_num 0) (E_num 1))))) (by with_reducible rfl)) (fun v20 => (J_cast (σ := [.un, .sh ((eL (eP eN eN)) s15), .sh ((eT (eP eN eN)) s.1), .un, .un, .sh (eN x5), .un, .un, .sh ((eP eN eN) v8), .un, .un, .sh ((eP eN eN) s3), .sh ((eT (eT eN)) v6), .sh ((eP eN eN) v20), .sh ((eW ds) ()), .sh (eN s.2), .un, .un, .un]) rfl ?_))
      refine J_if1 (ρ := [.un, .sh ((eL (eP eN eN)) s15), .sh ((eT (eP eN eN)) s.1), .un, .un, .sh (eN x5), .un, .un, .sh ((eP eN eN) v8), .un, .un, .sh ((eP eN eN) s3), .sh ((eT (eT eN)) v6), .sh ((eP eN eN) v20), .sh ((eW ds) ()), .sh (eN s.2), .un, .un, .un]) (ma := (fun k => orC (nB ((eqPr Nat.beq Nat.beq) v8 v20)) (fun k => f17 s.1 x5 fun v28 => TC.V (nB ((eqPr Nat.beq Nat.beq) v28 v8)) k) fun v29 => TC.V v29 k)) tru_B (E_conv (E_or (E_cmp (cm_ne (eb_P eb_N eb_N) (by decide)) (E_var (i := 8) (ea := (eP eN eN)) (x := v8) rfl) (E_var (i := 13) (ea := (eP eN eN)) (x := v20) rfl)) (E_one (E_cmp (cm_ne (eb_P eb_N eb_N) (by decide)) (E_call2 (f := f17) (ee := (eP eN eN)) (o17 d (Nat.le_trans (by decide) hd)) (E_var (i := 2) (ea := (eT (eP eN eN))) (x := s.1) rfl) (E_var (i := 5) (ea := eN) (x := x5) rfl)) (E_var (i := 8) (ea := (eP eN eN)) (x := v8) rfl)))) (by with_reducible rfl)) ?_ ?_
      ·
        exact J_ret (ρ := [.un, .sh ((eL (eP eN eN)) s15), .sh ((eT (eP eN eN)) s.1), .un, .un, .sh (eN x5), .un, .un, .sh ((eP eN eN) v8), .un, .un, .sh ((eP eN eN) s3), .sh ((eT (eT eN)) v6), .sh ((eP eN eN) v20), .sh ((eW ds) ()), .sh (eN s.2), .un, .un, .un]) (kr := (fun _ => false)) (Q := Rt eB (fun _ => false)) (ma := (TC.V false)) (ea := eB) (E_conv (E_bl false) (by with_reducible rfl)) (fun x h => ⟨x, rfl, h⟩)
      ·
        refine J_setz (ρ := [.un, .sh ((eL (eP eN eN)) s15), .sh ((eT (eP eN eN)) s.1), .un, .un, .sh (eN x5), .un, .un, .sh ((eP eN eN) v8), .un, .un, .sh ((eP eN eN) s3), .sh ((eT (eT eN)) v6), .sh ((eP eN eN) v20), .sh ((eW ds) ()), .sh (eN s.2), .un, .un, .un]) (i := 11) (fz := []) (ma := (fun k => addF s3 v8 fun v31 => TC.V v31 k)) (ea := (eP eN eN)) (E_conv (E_call2 (f := addF) (ee := (eP eN eN)) (w_law_add d (Nat.le_trans (by decide) hd)) (E_var (i := 11) (ea := (eP eN eN)) (x := s3) rfl) (E_var (i := 8) (ea := (eP eN eN)) (x := v8) rfl)) (by with_reducible rfl)) (fun v30 => (J_cast (σ := [.un, .sh ((eL (eP eN eN)) s15), .sh ((eT (eP eN eN)) s.1), .un, .un, .sh (eN x5), .un, .un, .sh ((eP eN eN) v8), .un, .un, .sh ((eP eN eN) v30), .sh ((eT (eT eN)) v6), .sh ((eP eN eN) v20), .sh ((eW ds) ()), .sh (eN s.2), .un, .un, .un]) rfl ?_))
        exact J_done (fun h => ⟨v30, fk_msk (m := [false, true, false, false, false, true, false, false, true, false, false, false, true, true, false, false, false, false, false]) rfl, h⟩)
  ·
    refine J_if1 (ρ := [.un, .un, .sh ((eT (eP eN eN)) s.1), .un, .un, .un, .un, .un, .un, .un, .un, .sh ((eP eN eN) s3), .un, .un, .sh ((eW ds) ()), .sh (eN s.2), .un, .un, .un]) (ma := (fun k => f22 s.1 s.2 fun v33 => orC (nB ((eqPr Nat.beq Nat.beq) v33 s3)) (fun k => underF ((1 : Nat), (1 : Nat)) s3 fun v32 => TC.V v32 k) fun v34 => TC.V v34 k)) tru_B (E_conv (E_or (E_cmp (cm_ne (eb_P eb_N eb_N) (by decide)) (E_call2 (f := f22) (ee := (eP eN eN)) (o22 d (Nat.le_trans (by decide) hd)) (E_var (i := 2) (ea := (eT (eP eN eN))) (x := s.1) rfl) (E_var (i := 15) (ea := eN) (x := s.2) rfl)) (E_var (i := 11) (ea := (eP eN eN)) (x := s3) rfl)) (E_one (E_call2 (f := underF) (ee := eB) (w_law_under d (Nat.le_trans (by decide) hd)) (E_tup (E_es2 (E_num 1) (E_num 1))) (E_var (i := 11) (ea := (eP eN eN)) (x := s3) rfl)))) (by with_reducible rfl)) ?_ ?_
    ·
      exact J_ret (ρ := [.un, .un, .sh ((eT (eP eN eN)) s.1), .un, .un, .un, .un, .un, .un, .un, .un, .sh ((eP eN eN) s3), .un, .un, .sh ((eW ds) ()), .sh (eN s.2), .un, .un, .un]) (kr := (fun _ => false)) (Q := Rt eB (fun _ => false)) (ma := (TC.V false)) (ea := eB) (E_conv (E_bl false) (by with_reducible rfl)) (fun x h => ⟨x, rfl, h⟩)
    ·
      refine J_setz (ρ := [.un, .un, .sh ((eT (eP eN eN)) s.1), .un, .un, .un, .un, .un, .un, .un, .un, .sh ((eP eN eN) s3), .un, .un, .sh ((eW ds) ()), .sh (eN s.2), .un, .un, .un]) (i := 16) (fz := []) (ma := (fun k => drawC 30 (7 : Nat) (6 : Nat) fun v36 => lowC v36 (5 : Nat) fun v37 => TC.V v37 k)) (ea := (eP eN eN)) (E_conv (E_call2 (f := lowC) (ee := (eP eN eN)) (w_law_low d (Nat.le_trans (by decide) hd)) (E_drawn (i := 14) (ds := ds) rfl hds (E_num 7) (E_num 6)) (E_num 5)) (by with_reducible rfl)) (fun v35 => (J_cast (σ := [.un, .un, .sh ((eT (eP eN eN)) s.1), .un, .un, .un, .un, .un, .un, .un, .un, .sh ((eP eN eN) s3), .un, .un, .sh ((eW ds) ()), .sh (eN s.2), .sh ((eP eN eN) v35), .un, .un]) rfl ?_))
      refine J_if1 (ρ := [.un, .un, .sh ((eT (eP eN eN)) s.1), .un, .un, .un, .un, .un, .un, .un, .un, .sh ((eP eN eN) s3), .un, .un, .sh ((eW ds) ()), .sh (eN s.2), .sh ((eP eN eN) v35), .un, .un]) (ma := (fun k => f16 s.1 v35 fun v39 => andC v39 (fun k => underF v35 s3 fun v38 => TC.V v38 k) fun v40 => TC.V v40 k)) tru_B (E_conv (E_and (E_call2 (f := f16) (ee := eB) (o16 d (Nat.le_trans (by decide) hd)) (E_var (i := 2) (ea := (eT (eP eN eN))) (x := s.1) rfl) (E_var (i := 16) (ea := (eP eN eN)) (x := v35) rfl)) (E_one (E_call2 (f := underF) (ee := eB) (w_law_under d (Nat.le_trans (by decide) hd)) (E_var (i := 16) (ea := (eP eN eN)) (x := v35) rfl) (E_var (i := 11) (ea := (eP eN eN)) (x := s3) rfl)))) (by with_reducible rfl)) ?_ ?_
      ·
        exact J_ret (ρ := [.un, .un, .sh ((eT (eP eN eN)) s.1), .un, .un, .un, .un, .un, .un, .un, .un, .sh ((eP eN eN) s3), .un, .un, .sh ((eW ds) ()), .sh (eN s.2), .sh ((eP eN eN) v35), .un, .un]) (kr := (fun _ => false)) (Q := Rt eB (fun _ => false)) (ma := (TC.V false)) (ea := eB) (E_conv (E_bl false) (by with_reducible rfl)) (fun x h => ⟨x, rfl, h⟩)
      ·
        exact J_done (fun h => ⟨(s.1, s.2), fk_msk (m := [false, false, false, false, false, false, false, false, false, false, false, true, false, false, false, false, true, false, false]) rfl, h⟩)
abbrev E3 (ds : List Int) (s : (List (Nat × Nat)) × Nat) : DL.Env := [.un, .un, .sh ((eT (eP eN eN)) s.1), .un, .un, .un, .un, .un, .un, .un, .un, .un, .un, .un, .sh ((eW ds) ()), .sh (eN s.2), .un, .un, .un]
abbrev E3' (ds : List Int) (t : (List (Nat × Nat)) × Nat) : DL.Env := [.un, .un, .sh ((eT (eP eN eN)) t.1), .un, .un, .un, .un, .un, .un, .un, .un, .un, .un, .un, .sh ((eW ds) ()), .sh (eN t.2), .un, .un, .un]
noncomputable def p3 (s : (List (Nat × Nat)) × Nat) (jj : (List (Nat × Nat)) × Nat → Bool) : Bool :=
  f12 s.1 fun v2 => lessZ ((Int.ofNat (1 : Nat)), (1 : Nat)) ((fun (p : (Nat × Nat)) => (Int.ofNat p.1, p.2)) v2) fun v3 => TC.V v3 fun v1 => joinC (S := Unit) (fun j6 => underZ ((Int.ofNat (0 : Nat)), (1 : Nat)) v1 fun v4 => TC.V v4 fun x => cB x (f18 s.1 fun v12 => mulZ v12 v1 fun v13 => orC (nB ((eqPr eqI Nat.beq) v13 ((Int.ofNat (1 : Nat)), (1 : Nat)))) (fun k => f18 s.1 fun v7 => f12 s.1 fun v8 => f18 s.1 fun v9 => mulZ ((fun (p : (Nat × Nat)) => (Int.ofNat p.1, p.2)) v8) v9 fun v10 => addZ ((Int.ofNat (1 : Nat)), (1 : Nat)) v10 fun v11 => TC.V (nB ((eqPr eqI Nat.beq) v7 v11)) k) fun v14 => TC.V v14 fun x => cB x ( TC.V false (fun _ => false)) (j6 ())) (dynB mt tr 8 33 (eN (1 : Nat) :: ((eT (eP eN eN)) s.1 :: (eU () :: []))) fun v15 => TC.V (nB v15) fun x => cB x ( TC.V false (fun _ => false)) (j6 ()))) fun s5 => jj (s.1, s.2)
theorem q3 (ds : List Int) (hds : ds.length = 30) (d : Nat) (hd : 13 ≤ d) (s : (List (Nat × Nat)) × Nat) (jj : (List (Nat × Nat)) × Nat → Bool) : J (callT T (runs T bs mt d)) mt (E3 ds s) g3 (p3 s jj) (Nx (fun t => E3' ds t) jj) (fun _ => False) := by
  refine J_Q (Q := Rt eB (fun _ => false)) (fun _ ⟨_, _, h⟩ => by cases h) ?_
  have hC := monoC (T := T) (bs := bs) (mt := mt) d
  have hQ := clo_Rt (er := eB) (kn_pu pu_B) (k := fun _ => false)
  unfold g3 p3
  refine J_setz (ρ := [.un, .un, .sh ((eT (eP eN eN)) s.1), .un, .un, .un, .un, .un, .un, .un, .un, .un, .un, .un, .sh ((eW ds) ()), .sh (eN s.2), .un, .un, .un]) (i := 17) (fz := []) (ma := (fun k => f12 s.1 fun v2 => lessZ ((Int.ofNat (1 : Nat)), (1 : Nat)) ((fun (p : (Nat × Nat)) => (Int.ofNat p.1, p.2)) v2) fun v3 => TC.V v3 k)) (ea := (eP eI eN)) (E_conv (E_call2 (f := lessZ) (ee := (eP eI eN)) (w_law_lessZ d (Nat.le_trans (by decide) hd)) (E_tup (E_es2 (E_co (ea := eN) (eb := eI) Int.ofNat (fun _ => rfl) (E_num 1)) (E_num 1))) (E_co (ea := (eP eN eN)) (eb := (eP eI eN)) (fun (p : (Nat × Nat)) => (Int.ofNat p.1, p.2)) (fun _ => rfl) (E_call1 (f := f12) (ee := (eP eN eN)) (o12 d (Nat.le_trans (by decide) hd)) (E_var (i := 2) (ea := (eT (eP eN eN))) (x := s.1) rfl)))) (by with_reducible rfl)) (fun v1 => (J_cast (σ := [.un, .un, .sh ((eT (eP eN eN)) s.1), .un, .un, .un, .un, .un, .un, .un, .un, .un, .un, .un, .sh ((eW ds) ()), .sh (eN s.2), .un, .sh ((eP eI eN) v1), .un]) rfl ?_))
  refine J_ifS (ρ := [.un, .un, .sh ((eT (eP eN eN)) s.1), .un, .un, .un, .un, .un, .un, .un, .un, .un, .un, .un, .sh ((eW ds) ()), .sh (eN s.2), .un, .sh ((eP eI eN) v1), .un]) (S := Unit) (E := fun s5 => [.un, .un, .sh ((eT (eP eN eN)) s.1), .un, .un, .un, .un, .un, .un, .un, .un, .un, .un, .un, .sh ((eW ds) ()), .sh (eN s.2), .un, .sh ((eP eI eN) v1), .un]) (ma := (fun k => underZ ((Int.ofNat (0 : Nat)), (1 : Nat)) v1 fun v4 => TC.V v4 k)) hC mono_Nx hQ tru_B (E_conv (E_call2 (f := underZ) (ee := eB) (w_law_underZ d (Nat.le_trans (by decide) hd)) (E_tup (E_es2 (E_co (ea := eN) (eb := eI) Int.ofNat (fun _ => rfl) (E_num 0)) (E_num 1))) (E_var (i := 17) (ea := (eP eI eN)) (x := v1) rfl)) (by with_reducible rfl)) (fun j6 => ?_) (fun j6 => ?_) (fun s5 => ?_)
  ·
    refine J_if1 (ρ := [.un, .un, .sh ((eT (eP eN eN)) s.1), .un, .un, .un, .un, .un, .un, .un, .un, .un, .un, .un, .sh ((eW ds) ()), .sh (eN s.2), .un, .sh ((eP eI eN) v1), .un]) (ma := (fun k => f18 s.1 fun v12 => mulZ v12 v1 fun v13 => orC (nB ((eqPr eqI Nat.beq) v13 ((Int.ofNat (1 : Nat)), (1 : Nat)))) (fun k => f18 s.1 fun v7 => f12 s.1 fun v8 => f18 s.1 fun v9 => mulZ ((fun (p : (Nat × Nat)) => (Int.ofNat p.1, p.2)) v8) v9 fun v10 => addZ ((Int.ofNat (1 : Nat)), (1 : Nat)) v10 fun v11 => TC.V (nB ((eqPr eqI Nat.beq) v7 v11)) k) fun v14 => TC.V v14 k)) tru_B (E_conv (E_or (E_cmp (cm_ne (eb_P eb_I eb_N) (by decide)) (E_call2 (f := mulZ) (ee := (eP eI eN)) (w_law_mulZ d (Nat.le_trans (by decide) hd)) (E_call1 (f := f18) (ee := (eP eI eN)) (o18 d (Nat.le_trans (by decide) hd)) (E_var (i := 2) (ea := (eT (eP eN eN))) (x := s.1) rfl)) (E_var (i := 17) (ea := (eP eI eN)) (x := v1) rfl)) (E_tup (E_es2 (E_co (ea := eN) (eb := eI) Int.ofNat (fun _ => rfl) (E_num 1)) (E_num 1)))) (E_one (E_cmp (cm_ne (eb_P eb_I eb_N) (by decide)) (E_call1 (f := f18) (ee := (eP eI eN)) (o18 d (Nat.le_trans (by decide) hd)) (E_var (i := 2) (ea := (eT (eP eN eN))) (x := s.1) rfl)) (E_call2 (f := addZ) (ee := (eP eI eN)) (w_law_addZ d (Nat.le_trans (by decide) hd)) (E_tup (E_es2 (E_co (ea := eN) (eb := eI) Int.ofNat (fun _ => rfl) (E_num 1)) (E_num 1))) (E_call2 (f := mulZ) (ee := (eP eI eN)) (w_law_mulZ d (Nat.le_trans (by decide) hd)) (E_co (ea := (eP eN eN)) (eb := (eP eI eN)) (fun (p : (Nat × Nat)) => (Int.ofNat p.1, p.2)) (fun _ => rfl) (E_call1 (f := f12) (ee := (eP eN eN)) (o12 d (Nat.le_trans (by decide) hd)) (E_var (i := 2) (ea := (eT (eP eN eN))) (x := s.1) rfl))) (E_call1 (f := f18) (ee := (eP eI eN)) (o18 d (Nat.le_trans (by decide) hd)) (E_var (i := 2) (ea := (eT (eP eN eN))) (x := s.1) rfl))))))) (by with_reducible rfl)) ?_ ?_
    ·
      exact J_ret (ρ := [.un, .un, .sh ((eT (eP eN eN)) s.1), .un, .un, .un, .un, .un, .un, .un, .un, .un, .un, .un, .sh ((eW ds) ()), .sh (eN s.2), .un, .sh ((eP eI eN) v1), .un]) (kr := (fun _ => false)) (Q := Rt eB (fun _ => false)) (ma := (TC.V false)) (ea := eB) (E_conv (E_bl false) (by with_reducible rfl)) (fun x h => ⟨x, rfl, h⟩)
    ·
      exact J_done (fun h => ⟨(), fk_msk (m := [false, false, false, false, false, false, false, false, false, false, false, false, false, false, false, false, false, false, false]) rfl, h⟩)
  ·
    refine J_if1 (ρ := [.un, .un, .sh ((eT (eP eN eN)) s.1), .un, .un, .un, .un, .un, .un, .un, .un, .un, .un, .un, .sh ((eW ds) ()), .sh (eN s.2), .un, .sh ((eP eI eN) v1), .un]) (ma := (fun k => dynB mt tr 8 33 (eN (1 : Nat) :: ((eT (eP eN eN)) s.1 :: (eU () :: []))) fun v15 => TC.V (nB v15) k)) tru_B (E_conv (E_not tru_B (E_dynB (d0 := 8) tr_ok (Nat.le_trans (by decide) hd) (A_cons (ea := eN) (E_num 1) (A_cons (ea := (eT (eP eN eN))) (E_var (i := 2) (ea := (eT (eP eN eN))) (x := s.1) rfl) (A_cons (ea := eU) E_non A_nil))))) (by with_reducible rfl)) ?_ ?_
    ·
      exact J_ret (ρ := [.un, .un, .sh ((eT (eP eN eN)) s.1), .un, .un, .un, .un, .un, .un, .un, .un, .un, .un, .un, .sh ((eW ds) ()), .sh (eN s.2), .un, .sh ((eP eI eN) v1), .un]) (kr := (fun _ => false)) (Q := Rt eB (fun _ => false)) (ma := (TC.V false)) (ea := eB) (E_conv (E_bl false) (by with_reducible rfl)) (fun x h => ⟨x, rfl, h⟩)
    ·
      exact J_done (fun h => ⟨(), fk_msk (m := [false, false, false, false, false, false, false, false, false, false, false, false, false, false, false, false, false, false, false]) rfl, h⟩)
  ·
    exact J_done (fun h => ⟨(s.1, s.2), fk_msk (m := [false, false, false, false, false, false, false, false, false, false, false, false, false, false, false, false, false, true, false]) rfl, h⟩)
abbrev E4 (ds : List Int) (s : (List (Nat × Nat)) × Nat) : DL.Env := [.un, .un, .sh ((eT (eP eN eN)) s.1), .un, .un, .un, .un, .un, .un, .un, .un, .un, .un, .un, .sh ((eW ds) ()), .sh (eN s.2), .un, .un, .un]
abbrev E4' (ds : List Int) (t : (List (Nat × Nat)) × (List Nat)) : DL.Env := [.un, .un, .sh ((eT (eP eN eN)) t.1), .un, .un, .un, .un, .un, .un, .un, .un, .un, .un, .un, .sh ((eW ds) ()), .un, .un, .un, .sh ((eL eN) t.2)]
noncomputable def p4 (s : (List (Nat × Nat)) × Nat) (jj : (List (Nat × Nat)) × (List Nat) → Bool) : Bool :=
   TC.V ([] : List Nat) fun xs => TC.V (inR xs) fun v1 => subN s.2 (1 : Nat) fun v2 => TC.V v2 fun v3 => G (Nat.blt s.2 4611686018427387904) <| TC.V (upto s.2 0) fun xs => forC (S := Nat × (Nat × List Nat)) (fun (x7 : Nat) s5 j6 => subN s.2 (1 : Nat) fun v9 => iteC (Nat.blt x7 v9) (fun k => drawC 30 (Nat.add (10 : Nat) x7) (Nat.add s5.1 (1 : Nat)) fun v12 => TC.V v12 k) (TC.V s5.1) fun v13 => TC.V v13 fun v8 =>  TC.V v8 fun x => G (Nat.blt s5.2.1 big) (TC.V (Nat.add s5.2.1 1, x :: s5.2.2) fun v14 => subN s5.1 v8 fun v16 => TC.V v16 fun v15 => j6 (v15, v14))) xs (v3, v1) fun s5 => G (Nat.blt s.2 4611686018427387904) <| lcC (fun (x19 : Nat) k => catC (slN (some x19) none (outN s5.2)) (slN none (some x19) (outN s5.2)) fun v21 => f21 v21 fun v23 => k v23) (fun (x19 : Nat) => (TC.V x19)) (upto s.2 0) 0 fun v20 => TC.V v20 fun v17 => jj (s.1, v17)
theorem q4 (ds : List Int) (hds : ds.length = 30) (d : Nat) (hd : 2 ≤ d) (s : (List (Nat × Nat)) × Nat) (jj : (List (Nat × Nat)) × (List Nat) → Bool) : J (callT T (runs T bs mt d)) mt (E4 ds s) g4 (p4 s jj) (Nx (fun t => E4' ds t) jj) (fun _ => False) := by
  refine J_Q (Q := Rt eB (fun _ => false)) (fun _ ⟨_, _, h⟩ => by cases h) ?_
  have hC := monoC (T := T) (bs := bs) (mt := mt) d
  have hQ := clo_Rt (er := eB) (kn_pu pu_B) (k := fun _ => false)
  unfold g4 p4
  refine J_par2 (ρ := [.un, .un, .sh ((eT (eP eN eN)) s.1), .un, .un, .un, .un, .un, .un, .un, .un, .un, .un, .un, .sh ((eW ds) ()), .sh (eN s.2), .un, .un, .un]) (i1 := 9) (i2 := 7) (f := (oR eN)) (g := (fun x => .sh (eN x))) (ma := (fun k => (TC.V ([] : List Nat)) fun xs => TC.V (inR xs) k)) (mb := (fun k => subN s.2 (1 : Nat) fun v2 => TC.V v2 k)) rfl rfl (S_oR (ea := eN) (ml := (TC.V ([] : List Nat))) (E_conv (E_lst (ea := eN) (E_nil (ea := eN))) (by with_reducible rfl)) pu_N) (S_sh (ea := eN) (ma := (fun k => subN s.2 (1 : Nat) fun v2 => TC.V v2 k)) (E_conv (E_bin op_subN (E_var (i := 15) (ea := eN) (x := s.2) rfl) (E_num 1)) (by with_reducible rfl)) pu_N) (fun v1 v3 => (J_cast (σ := [.un, .un, .sh ((eT (eP eN eN)) s.1), .un, .un, .un, .un, .sh (eN v3), .un, oR eN v1, .un, .un, .un, .un, .sh ((eW ds) ()), .sh (eN s.2), .un, .un, .un]) rfl ?_))
  refine J_for (ρ := [.un, .un, .sh ((eT (eP eN eN)) s.1), .un, .un, .un, .un, .sh (eN v3), .un, oR eN v1, .un, .un, .un, .un, .sh ((eW ds) ()), .sh (eN s.2), .un, .un, .un]) (t := (.one 6)) (fz := []) (S := Nat × (Nat × List Nat)) (X := Nat) (ex := eN) (E := fun s5 => [.un, .un, .sh ((eT (eP eN eN)) s.1), .un, .un, .un, .un, .sh (eN s5.1), .un, oR eN s5.2, .un, .un, .un, .un, .sh ((eW ds) ()), .sh (eN s.2), .un, .un, .un]) (Eb := fun x7 s5 => [.un, .un, .sh ((eT (eP eN eN)) s.1), .un, .un, .un, .sh (eN x7), .sh (eN s5.1), .un, oR eN s5.2, .un, .un, .un, .un, .sh ((eW ds) ()), .sh (eN s.2), .un, .un, .un]) (s0 := (v3, v1)) (mx := (fun k => G (Nat.blt s.2 4611686018427387904) <| TC.V (upto s.2 0) k)) hC mono_Nx hQ (E_conv (E_ir1 (E_var (i := 15) (ea := eN) (x := s.2) rfl)) (by with_reducible rfl)) (fk_msk (m := [false, false, false, false, false, false, false, false, false, false, false, false, false, false, false, false, false, false, false]) rfl) (fun _ _ => rfl) (fun x7 s5 j6 => ?_) (fun s5 => ?_)
  ·
    refine J_setz (ρ := [.un, .un, .sh ((eT (eP eN eN)) s.1), .un, .un, .un, .sh (eN x7), .sh (eN s5.1), .un, oR eN s5.2, .un, .un, .un, .un, .sh ((eW ds) ()), .sh (eN s.2), .un, .un, .un]) (i := 10) (fz := []) (ma := (fun k => subN s.2 (1 : Nat) fun v9 => iteC (Nat.blt x7 v9) (fun k => drawC 30 (Nat.add (10 : Nat) x7) (Nat.add s5.1 (1 : Nat)) fun v12 => TC.V v12 k) (TC.V s5.1) fun v13 => TC.V v13 k)) (ea := eN) (E_conv (E_ite (eb := eN) tru_B (E_cmp cm_lt (E_var (i := 6) (ea := eN) (x := x7) rfl) (E_bin op_subN (E_var (i := 15) (ea := eN) (x := s.2) rfl) (E_num 1))) (E_drawn (i := 14) (ds := ds) rfl hds (E_bin op_addN (E_num 10) (E_var (i := 6) (ea := eN) (x := x7) rfl)) (E_bin op_addN (E_var (i := 7) (ea := eN) (x := s5.1) rfl) (E_num 1))) (E_var (i := 7) (ea := eN) (x := s5.1) rfl)) (by with_reducible rfl)) (fun v8 => (J_cast (σ := [.un, .un, .sh ((eT (eP eN eN)) s.1), .un, .un, .un, .sh (eN x7), .sh (eN s5.1), .un, oR eN s5.2, .sh (eN v8), .un, .un, .un, .sh ((eW ds) ()), .sh (eN s.2), .un, .un, .un]) rfl ?_))
    refine J_app (ρ := [.un, .un, .sh ((eT (eP eN eN)) s.1), .un, .un, .un, .sh (eN x7), .sh (eN s5.1), .un, oR eN s5.2, .sh (eN v8), .un, .un, .un, .sh ((eW ds) ()), .sh (eN s.2), .un, .un, .un]) (i := 9) (ma := (TC.V v8)) (ea := eN) (p := s5.2) rfl (E_conv (E_var (i := 10) (ea := eN) (x := v8) rfl) (by with_reducible rfl)) pu_N (fun v14 => (J_cast (σ := [.un, .un, .sh ((eT (eP eN eN)) s.1), .un, .un, .un, .sh (eN x7), .sh (eN s5.1), .un, oR eN v14, .sh (eN v8), .un, .un, .un, .sh ((eW ds) ()), .sh (eN s.2), .un, .un, .un]) rfl ?_))
    refine J_setz (ρ := [.un, .un, .sh ((eT (eP eN eN)) s.1), .un, .un, .un, .sh (eN x7), .sh (eN s5.1), .un, oR eN v14, .sh (eN v8), .un, .un, .un, .sh ((eW ds) ()), .sh (eN s.2), .un, .un, .un]) (i := 7) (fz := []) (ma := (fun k => subN s5.1 v8 fun v16 => TC.V v16 k)) (ea := eN) (E_conv (E_bin op_subN (E_var (i := 7) (ea := eN) (x := s5.1) rfl) (E_var (i := 10) (ea := eN) (x := v8) rfl)) (by with_reducible rfl)) (fun v15 => (J_cast (σ := [.un, .un, .sh ((eT (eP eN eN)) s.1), .un, .un, .un, .sh (eN x7), .sh (eN v15), .un, oR eN v14, .sh (eN v8), .un, .un, .un, .sh ((eW ds) ()), .sh (eN s.2), .un, .un, .un]) rfl ?_))
    exact J_done (fun h => ⟨(v15, v14), fk_msk (m := [false, false, false, false, false, false, true, false, false, false, true, false, false, false, false, false, false, false, false]) rfl, h⟩)
  ·
    refine J_setz (ρ := [.un, .un, .sh ((eT (eP eN eN)) s.1), .un, .un, .un, .un, .sh (eN s5.1), .un, oR eN s5.2, .un, .un, .un, .un, .sh ((eW ds) ()), .sh (eN s.2), .un, .un, .un]) (i := 18) (fz := [9]) (ma := (fun k => G (Nat.blt s.2 4611686018427387904) <| lcC (fun (x19 : Nat) k => catC (slN (some x19) none (outN s5.2)) (slN none (some x19) (outN s5.2)) fun v21 => f21 v21 fun v23 => k v23) (fun (x19 : Nat) => (TC.V x19)) (upto s.2 0) 0 fun v20 => TC.V v20 k)) (ea := (eL eN)) (E_conv (E_lc (own := [6]) (tg := (.one 6)) (ex := eN) (ey := eN) (E := fun x19 => [.un, .un, .sh ((eT (eP eN eN)) s.1), .un, .un, .un, .sh (eN x19), .sh (eN s5.1), .un, oR eN s5.2, .un, .un, .un, .un, .sh ((eW ds) ()), .sh (eN s.2), .un, .un, .un]) (E_ir1 (E_var (i := 15) (ea := eN) (x := s.2) rfl)) (fun _ => rfl) tru_B (fun x19 => (E_call1 (f := f21) (ee := eB) (o21 d (Nat.le_trans (by decide) hd)) (E_blt1 bl_tupL (E_bin (ec := (eL eN)) op_catL (E_sliceL (ea := eN) (E_own (i := 9) (ea := eN) (p := s5.2) rfl) (P_at (E_var (i := 6) (ea := eN) (x := x19) rfl)) P_no) (E_sliceL (ea := eN) (E_own (i := 9) (ea := eN) (p := s5.2) rfl) P_no (P_at (E_var (i := 6) (ea := eN) (x := x19) rfl))))))) (fun x19 => (E_var (i := 6) (ea := eN) (x := x19) rfl))) (by with_reducible rfl)) (fun v17 => (J_cast (σ := [.un, .un, .sh ((eT (eP eN eN)) s.1), .un, .un, .un, .un, .sh (eN s5.1), .un, .sh (eL eN (List.reverse (List.take s5.2.1 s5.2.2))), .un, .un, .un, .un, .sh ((eW ds) ()), .sh (eN s.2), .un, .un, .sh ((eL eN) v17)]) rfl ?_))
    exact J_done (fun h => ⟨(s.1, v17), fk_msk (m := [false, false, false, false, false, false, false, true, false, true, false, false, false, false, false, true, false, false, false]) rfl, h⟩)
abbrev E5 (ds : List Int) (s : (List (Nat × Nat)) × (List Nat)) : DL.Env := [.un, .un, .sh ((eT (eP eN eN)) s.1), .un, .un, .un, .un, .un, .un, .un, .un, .un, .un, .un, .sh ((eW ds) ()), .un, .un, .un, .sh ((eL eN) s.2)]
noncomputable def p5 (s : (List (Nat × Nat)) × (List Nat)) : Bool :=
  andC (Nat.beq (TC.lenN s.2) (1 : Nat)) (fun k => drawC 30 (20 : Nat) (4 : Nat) fun v2 => subL ((eN (0 : Nat)) :: ((eN (31 : Nat)) :: ((eU ()) :: ((eB true) :: ([] : List PyData))))) v2 fun v1 => dynB mt tr 8 33 (eN (0 : Nat) :: ((eT (eP eN eN)) s.1 :: (eD v1 :: []))) fun v3 => TC.V v3 k) fun v5 => TC.V v5 (fun b => b)
theorem q5 (ds : List Int) (hds : ds.length = 30) (d : Nat) (hd : 13 ≤ d) (s : (List (Nat × Nat)) × (List Nat)) : J (callT T (runs T bs mt d)) mt (E5 ds s) g5 (p5 s) (fun _ => False) (Rt eB fun b => b) := by
  have hC := monoC (T := T) (bs := bs) (mt := mt) d
  have hQ := clo_Rt (er := eB) (kn_pu pu_B) (k := fun b => b)
  unfold g5 p5
  exact J_ret (ρ := [.un, .un, .sh ((eT (eP eN eN)) s.1), .un, .un, .un, .un, .un, .un, .un, .un, .un, .un, .un, .sh ((eW ds) ()), .un, .un, .un, .sh ((eL eN) s.2)]) (kr := (fun b => b)) (Q := Rt eB (fun b => b)) (ma := (fun k => andC (Nat.beq (TC.lenN s.2) (1 : Nat)) (fun k => drawC 30 (20 : Nat) (4 : Nat) fun v2 => subL ((eN (0 : Nat)) :: ((eN (31 : Nat)) :: ((eU ()) :: ((eB true) :: ([] : List PyData))))) v2 fun v1 => dynB mt tr 8 33 (eN (0 : Nat) :: ((eT (eP eN eN)) s.1 :: (eD v1 :: []))) fun v3 => TC.V v3 k) fun v5 => TC.V v5 k)) (ea := eB) (E_conv (E_and (E_cmp (cm_eq eb_N (by decide)) (E_blt1 bl_lenL (E_var (i := 18) (ea := (eL eN)) (x := s.2) rfl)) (E_num 1)) (E_one (E_dynB (d0 := 8) tr_ok (Nat.le_trans (by decide) hd) (A_cons (ea := eN) (E_num 0) (A_cons (ea := (eT (eP eN eN))) (E_var (i := 2) (ea := (eT (eP eN eN))) (x := s.1) rfl) (A_cons (ea := eD) (E_sub (ec := eD) sb_T (E_tup (E_cons (E_co (ea := eN) (eb := eD) eN (fun _ => rfl) (E_num 0)) (E_cons (E_co (ea := eN) (eb := eD) eN (fun _ => rfl) (E_num 31)) (E_cons (E_co (ea := eU) (eb := eD) eU (fun _ => rfl) E_non) (E_cons (E_co (ea := eB) (eb := eD) eB (fun _ => rfl) (E_bl true)) (E_nil (ea := eD))))))) (E_drawn (i := 14) (ds := ds) rfl hds (E_num 20) (E_num 4))) A_nil)))))) (by with_reducible rfl)) (fun x h => ⟨x, rfl, h⟩)
end K20
set_option maxRecDepth 1000000
namespace K20
open PySem PySem.Spec PyProof.Rows L2 DL DL.TC
noncomputable def eqS : List (Nat × Nat) → List (Nat × Nat) → Bool := eqLs (eqPr Nat.beq Nat.beq)
theorem eqS_ok (a b : List (Nat × Nat)) (h : eqS a b = true) : a = b := eqLs_ok (eqPr_ok beqN_ok beqN_ok) a b h
def MS : List Nat := [1, 2, 3, 4, 5, 6]
noncomputable def pE (s t : List (Nat × Nat) × Nat) : Bool := cB (eqS s.1 t.1) (Nat.beq s.2 t.2) false
noncomputable def okG (g : List Nat) : Bool := Nat.beq (TC.lenN g) 1
theorem okG_ok {g : List Nat} (h : okG g = true) : ∃ k, g = [k] := by
  have h := beqN_ok _ _ h
  rw [TC.lenN_eq] at h
  exact List.length_eq_one_iff.mp h
def C0 : List (List (Nat × Nat)) := [[(1, 1)], [(1, 1), (0, 1)], [(0, 1), (1, 1)], [(1, 2), (1, 2)], [(1, 3), (2, 3)], [(1, 4), (3, 4)], [(2, 3), (1, 3)], [(2, 5), (3, 5)]]
def C1 : List (List (Nat × Nat)) := [[(3, 4), (1, 4)], [(3, 5), (2, 5)], [(1, 1), (0, 1), (0, 1)], [(0, 1), (0, 1), (1, 1)], [(0, 1), (1, 1), (0, 1)], [(0, 1), (1, 2), (1, 2)], [(0, 1), (1, 3), (2, 3)], [(0, 1), (1, 4), (3, 4)]]
def C2 : List (List (Nat × Nat)) := [[(0, 1), (2, 3), (1, 3)], [(0, 1), (2, 5), (3, 5)], [(0, 1), (3, 4), (1, 4)], [(0, 1), (3, 5), (2, 5)], [(1, 2), (0, 1), (1, 2)], [(1, 3), (0, 1), (2, 3)], [(1, 4), (0, 1), (3, 4)], [(1, 2), (1, 2), (0, 1)]]
def C3 : List (List (Nat × Nat)) := [[(1, 3), (1, 3), (1, 3)], [(1, 4), (1, 4), (1, 2)], [(1, 5), (1, 5), (3, 5)], [(1, 3), (2, 3), (0, 1)], [(1, 4), (1, 2), (1, 4)], [(1, 5), (2, 5), (2, 5)], [(1, 6), (1, 3), (1, 2)], [(1, 4), (3, 4), (0, 1)]]
def C4 : List (List (Nat × Nat)) := [[(1, 5), (3, 5), (1, 5)], [(1, 6), (1, 2), (1, 3)], [(1, 7), (3, 7), (3, 7)], [(2, 3), (0, 1), (1, 3)], [(2, 5), (0, 1), (3, 5)], [(2, 3), (1, 3), (0, 1)], [(1, 2), (1, 4), (1, 4)], [(2, 5), (1, 5), (2, 5)]]
def C5 : List (List (Nat × Nat)) := [[(1, 3), (1, 6), (1, 2)], [(2, 5), (2, 5), (1, 5)], [(2, 7), (2, 7), (3, 7)], [(2, 5), (3, 5), (0, 1)], [(1, 3), (1, 2), (1, 6)], [(2, 7), (3, 7), (2, 7)], [(1, 4), (3, 8), (3, 8)], [(3, 4), (0, 1), (1, 4)]]
def C6 : List (List (Nat × Nat)) := [[(3, 5), (0, 1), (2, 5)], [(3, 4), (1, 4), (0, 1)], [(3, 5), (1, 5), (1, 5)], [(1, 2), (1, 6), (1, 3)], [(3, 7), (1, 7), (3, 7)], [(3, 5), (2, 5), (0, 1)], [(1, 2), (1, 3), (1, 6)], [(3, 7), (2, 7), (2, 7)]]
def C7 : List (List (Nat × Nat)) := [[(3, 8), (1, 4), (3, 8)], [(3, 7), (3, 7), (1, 7)], [(3, 8), (3, 8), (1, 4)], [(1, 1), (0, 1), (0, 1), (0, 1)], [(0, 1), (0, 1), (0, 1), (1, 1)], [(0, 1), (0, 1), (1, 1), (0, 1)], [(0, 1), (0, 1), (1, 2), (1, 2)], [(0, 1), (0, 1), (1, 3), (2, 3)]]
def C8 : List (List (Nat × Nat)) := [[(0, 1), (0, 1), (1, 4), (3, 4)], [(0, 1), (0, 1), (2, 3), (1, 3)], [(0, 1), (0, 1), (2, 5), (3, 5)], [(0, 1), (0, 1), (3, 4), (1, 4)], [(0, 1), (0, 1), (3, 5), (2, 5)], [(0, 1), (1, 1), (0, 1), (0, 1)], [(0, 1), (1, 2), (0, 1), (1, 2)], [(0, 1), (1, 3), (0, 1), (2, 3)]]
def C9 : List (List (Nat × Nat)) := [[(0, 1), (1, 4), (0, 1), (3, 4)], [(0, 1), (1, 2), (1, 2), (0, 1)], [(0, 1), (1, 3), (1, 3), (1, 3)], [(0, 1), (1, 4), (1, 4), (1, 2)], [(0, 1), (1, 5), (1, 5), (3, 5)], [(0, 1), (1, 3), (2, 3), (0, 1)], [(0, 1), (1, 4), (1, 2), (1, 4)], [(0, 1), (1, 5), (2, 5), (2, 5)]]
def C10 : List (List (Nat × Nat)) := [[(0, 1), (1, 6), (1, 3), (1, 2)], [(0, 1), (1, 4), (3, 4), (0, 1)], [(0, 1), (1, 5), (3, 5), (1, 5)], [(0, 1), (1, 6), (1, 2), (1, 3)], [(0, 1), (1, 7), (3, 7), (3, 7)], [(0, 1), (2, 3), (0, 1), (1, 3)], [(0, 1), (2, 5), (0, 1), (3, 5)], [(0, 1), (2, 3), (1, 3), (0, 1)]]
def C11 : List (List (Nat × Nat)) := [[(0, 1), (1, 2), (1, 4), (1, 4)], [(0, 1), (2, 5), (1, 5), (2, 5)], [(0, 1), (1, 3), (1, 6), (1, 2)], [(0, 1), (2, 5), (2, 5), (1, 5)], [(0, 1), (2, 7), (2, 7), (3, 7)], [(0, 1), (2, 5), (3, 5), (0, 1)], [(0, 1), (1, 3), (1, 2), (1, 6)], [(0, 1), (2, 7), (3, 7), (2, 7)]]
def C12 : List (List (Nat × Nat)) := [[(0, 1), (1, 4), (3, 8), (3, 8)], [(0, 1), (3, 4), (0, 1), (1, 4)], [(0, 1), (3, 5), (0, 1), (2, 5)], [(0, 1), (3, 4), (1, 4), (0, 1)], [(0, 1), (3, 5), (1, 5), (1, 5)], [(0, 1), (1, 2), (1, 6), (1, 3)], [(0, 1), (3, 7), (1, 7), (3, 7)], [(0, 1), (3, 5), (2, 5), (0, 1)]]
def C13 : List (List (Nat × Nat)) := [[(0, 1), (1, 2), (1, 3), (1, 6)], [(0, 1), (3, 7), (2, 7), (2, 7)], [(0, 1), (3, 8), (1, 4), (3, 8)], [(0, 1), (3, 7), (3, 7), (1, 7)], [(0, 1), (3, 8), (3, 8), (1, 4)], [(1, 2), (0, 1), (0, 1), (1, 2)], [(1, 3), (0, 1), (0, 1), (2, 3)], [(1, 4), (0, 1), (0, 1), (3, 4)]]
def C14 : List (List (Nat × Nat)) := [[(1, 2), (0, 1), (1, 2), (0, 1)], [(1, 3), (0, 1), (1, 3), (1, 3)], [(1, 4), (0, 1), (1, 4), (1, 2)], [(1, 5), (0, 1), (1, 5), (3, 5)], [(1, 3), (0, 1), (2, 3), (0, 1)], [(1, 4), (0, 1), (1, 2), (1, 4)], [(1, 5), (0, 1), (2, 5), (2, 5)], [(1, 6), (0, 1), (1, 3), (1, 2)]]
def C15 : List (List (Nat × Nat)) := [[(1, 4), (0, 1), (3, 4), (0, 1)], [(1, 5), (0, 1), (3, 5), (1, 5)], [(1, 6), (0, 1), (1, 2), (1, 3)], [(1, 7), (0, 1), (3, 7), (3, 7)], [(1, 2), (1, 2), (0, 1), (0, 1)], [(1, 3), (1, 3), (0, 1), (1, 3)], [(1, 4), (1, 4), (0, 1), (1, 2)], [(1, 5), (1, 5), (0, 1), (3, 5)]]
def C16 : List (List (Nat × Nat)) := [[(1, 3), (1, 3), (1, 3), (0, 1)], [(1, 4), (1, 4), (1, 4), (1, 4)], [(1, 5), (1, 5), (1, 5), (2, 5)], [(1, 6), (1, 6), (1, 6), (1, 2)], [(1, 4), (1, 4), (1, 2), (0, 1)], [(1, 5), (1, 5), (2, 5), (1, 5)], [(1, 6), (1, 6), (1, 3), (1, 3)], [(1, 7), (1, 7), (2, 7), (3, 7)]]
def C17 : List (List (Nat × Nat)) := [[(1, 5), (1, 5), (3, 5), (0, 1)], [(1, 6), (1, 6), (1, 2), (1, 6)], [(1, 7), (1, 7), (3, 7), (2, 7)], [(1, 8), (1, 8), (3, 8), (3, 8)], [(1, 3), (2, 3), (0, 1), (0, 1)], [(1, 4), (1, 2), (0, 1), (1, 4)], [(1, 5), (2, 5), (0, 1), (2, 5)], [(1, 6), (1, 3), (0, 1), (1, 2)]]
def C18 : List (List (Nat × Nat)) := [[(1, 4), (1, 2), (1, 4), (0, 1)], [(1, 5), (2, 5), (1, 5), (1, 5)], [(1, 6), (1, 3), (1, 6), (1, 3)], [(1, 7), (2, 7), (1, 7), (3, 7)], [(1, 5), (2, 5), (2, 5), (0, 1)], [(1, 6), (1, 3), (1, 3), (1, 6)], [(1, 7), (2, 7), (2, 7), (2, 7)], [(1, 8), (1, 4), (1, 4), (3, 8)]]
def C19 : List (List (Nat × Nat)) := [[(1, 6), (1, 3), (1, 2), (0, 1)], [(1, 7), (2, 7), (3, 7), (1, 7)], [(1, 8), (1, 4), (3, 8), (1, 4)], [(1, 9), (2, 9), (1, 3), (1, 3)], [(1, 4), (3, 4), (0, 1), (0, 1)], [(1, 5), (3, 5), (0, 1), (1, 5)], [(1, 6), (1, 2), (0, 1), (1, 3)], [(1, 7), (3, 7), (0, 1), (3, 7)]]
def C20 : List (List (Nat × Nat)) := [[(1, 5), (3, 5), (1, 5), (0, 1)], [(1, 6), (1, 2), (1, 6), (1, 6)], [(1, 7), (3, 7), (1, 7), (2, 7)], [(1, 8), (3, 8), (1, 8), (3, 8)], [(1, 6), (1, 2), (1, 3), (0, 1)], [(1, 7), (3, 7), (2, 7), (1, 7)], [(1, 8), (3, 8), (1, 4), (1, 4)], [(1, 9), (1, 3), (2, 9), (1, 3)]]
def C21 : List (List (Nat × Nat)) := [[(1, 7), (3, 7), (3, 7), (0, 1)], [(1, 8), (3, 8), (3, 8), (1, 8)], [(1, 9), (1, 3), (1, 3), (2, 9)], [(1, 10), (3, 10), (3, 10), (3, 10)], [(2, 3), (0, 1), (0, 1), (1, 3)], [(2, 5), (0, 1), (0, 1), (3, 5)], [(2, 3), (0, 1), (1, 3), (0, 1)], [(1, 2), (0, 1), (1, 4), (1, 4)]]
def C22 : List (List (Nat × Nat)) := [[(2, 5), (0, 1), (1, 5), (2, 5)], [(1, 3), (0, 1), (1, 6), (1, 2)], [(2, 5), (0, 1), (2, 5), (1, 5)], [(2, 7), (0, 1), (2, 7), (3, 7)], [(2, 5), (0, 1), (3, 5), (0, 1)], [(1, 3), (0, 1), (1, 2), (1, 6)], [(2, 7), (0, 1), (3, 7), (2, 7)], [(1, 4), (0, 1), (3, 8), (3, 8)]]
def C23 : List (List (Nat × Nat)) := [[(2, 3), (1, 3), (0, 1), (0, 1)], [(1, 2), (1, 4), (0, 1), (1, 4)], [(2, 5), (1, 5), (0, 1), (2, 5)], [(1, 3), (1, 6), (0, 1), (1, 2)], [(1, 2), (1, 4), (1, 4), (0, 1)], [(2, 5), (1, 5), (1, 5), (1, 5)], [(1, 3), (1, 6), (1, 6), (1, 3)], [(2, 7), (1, 7), (1, 7), (3, 7)]]
def C24 : List (List (Nat × Nat)) := [[(2, 5), (1, 5), (2, 5), (0, 1)], [(1, 3), (1, 6), (1, 3), (1, 6)], [(2, 7), (1, 7), (2, 7), (2, 7)], [(1, 4), (1, 8), (1, 4), (3, 8)], [(1, 3), (1, 6), (1, 2), (0, 1)], [(2, 7), (1, 7), (3, 7), (1, 7)], [(1, 4), (1, 8), (3, 8), (1, 4)], [(2, 9), (1, 9), (1, 3), (1, 3)]]
def C25 : List (List (Nat × Nat)) := [[(2, 5), (2, 5), (0, 1), (1, 5)], [(2, 7), (2, 7), (0, 1), (3, 7)], [(2, 5), (2, 5), (1, 5), (0, 1)], [(1, 3), (1, 3), (1, 6), (1, 6)], [(2, 7), (2, 7), (1, 7), (2, 7)], [(1, 4), (1, 4), (1, 8), (3, 8)], [(2, 7), (2, 7), (2, 7), (1, 7)], [(2, 9), (2, 9), (2, 9), (1, 3)]]
def C26 : List (List (Nat × Nat)) := [[(2, 7), (2, 7), (3, 7), (0, 1)], [(1, 4), (1, 4), (3, 8), (1, 8)], [(2, 9), (2, 9), (1, 3), (2, 9)], [(1, 5), (1, 5), (3, 10), (3, 10)], [(2, 5), (3, 5), (0, 1), (0, 1)], [(1, 3), (1, 2), (0, 1), (1, 6)], [(2, 7), (3, 7), (0, 1), (2, 7)], [(1, 4), (3, 8), (0, 1), (3, 8)]]
def C27 : List (List (Nat × Nat)) := [[(1, 3), (1, 2), (1, 6), (0, 1)], [(2, 7), (3, 7), (1, 7), (1, 7)], [(1, 4), (3, 8), (1, 8), (1, 4)], [(2, 9), (1, 3), (1, 9), (1, 3)], [(2, 7), (3, 7), (2, 7), (0, 1)], [(1, 4), (3, 8), (1, 4), (1, 8)], [(2, 9), (1, 3), (2, 9), (2, 9)], [(1, 5), (3, 10), (1, 5), (3, 10)]]
def C28 : List (List (Nat × Nat)) := [[(1, 4), (3, 8), (3, 8), (0, 1)], [(2, 9), (1, 3), (1, 3), (1, 9)], [(1, 5), (3, 10), (3, 10), (1, 5)], [(2, 11), (3, 11), (3, 11), (3, 11)], [(3, 4), (0, 1), (0, 1), (1, 4)], [(3, 5), (0, 1), (0, 1), (2, 5)], [(3, 4), (0, 1), (1, 4), (0, 1)], [(3, 5), (0, 1), (1, 5), (1, 5)]]
def C29 : List (List (Nat × Nat)) := [[(1, 2), (0, 1), (1, 6), (1, 3)], [(3, 7), (0, 1), (1, 7), (3, 7)], [(3, 5), (0, 1), (2, 5), (0, 1)], [(1, 2), (0, 1), (1, 3), (1, 6)], [(3, 7), (0, 1), (2, 7), (2, 7)], [(3, 8), (0, 1), (1, 4), (3, 8)], [(3, 7), (0, 1), (3, 7), (1, 7)], [(3, 8), (0, 1), (3, 8), (1, 4)]]
def C30 : List (List (Nat × Nat)) := [[(3, 4), (1, 4), (0, 1), (0, 1)], [(3, 5), (1, 5), (0, 1), (1, 5)], [(1, 2), (1, 6), (0, 1), (1, 3)], [(3, 7), (1, 7), (0, 1), (3, 7)], [(3, 5), (1, 5), (1, 5), (0, 1)], [(1, 2), (1, 6), (1, 6), (1, 6)], [(3, 7), (1, 7), (1, 7), (2, 7)], [(3, 8), (1, 8), (1, 8), (3, 8)]]
def C31 : List (List (Nat × Nat)) := [[(1, 2), (1, 6), (1, 3), (0, 1)], [(3, 7), (1, 7), (2, 7), (1, 7)], [(3, 8), (1, 8), (1, 4), (1, 4)], [(1, 3), (1, 9), (2, 9), (1, 3)], [(3, 7), (1, 7), (3, 7), (0, 1)], [(3, 8), (1, 8), (3, 8), (1, 8)], [(1, 3), (1, 9), (1, 3), (2, 9)], [(3, 10), (1, 10), (3, 10), (3, 10)]]
def C32 : List (List (Nat × Nat)) := [[(3, 5), (2, 5), (0, 1), (0, 1)], [(1, 2), (1, 3), (0, 1), (1, 6)], [(3, 7), (2, 7), (0, 1), (2, 7)], [(3, 8), (1, 4), (0, 1), (3, 8)], [(1, 2), (1, 3), (1, 6), (0, 1)], [(3, 7), (2, 7), (1, 7), (1, 7)], [(3, 8), (1, 4), (1, 8), (1, 4)], [(1, 3), (2, 9), (1, 9), (1, 3)]]
def C33 : List (List (Nat × Nat)) := [[(3, 7), (2, 7), (2, 7), (0, 1)], [(3, 8), (1, 4), (1, 4), (1, 8)], [(1, 3), (2, 9), (2, 9), (2, 9)], [(3, 10), (1, 5), (1, 5), (3, 10)], [(3, 8), (1, 4), (3, 8), (0, 1)], [(1, 3), (2, 9), (1, 3), (1, 9)], [(3, 10), (1, 5), (3, 10), (1, 5)], [(3, 11), (2, 11), (3, 11), (3, 11)]]
def C34 : List (List (Nat × Nat)) := [[(3, 7), (3, 7), (0, 1), (1, 7)], [(3, 8), (3, 8), (0, 1), (1, 4)], [(3, 7), (3, 7), (1, 7), (0, 1)], [(3, 8), (3, 8), (1, 8), (1, 8)], [(1, 3), (1, 3), (1, 9), (2, 9)], [(3, 10), (3, 10), (1, 10), (3, 10)], [(3, 8), (3, 8), (1, 4), (0, 1)], [(1, 3), (1, 3), (2, 9), (1, 9)]]
def C35 : List (List (Nat × Nat)) := [[(3, 10), (3, 10), (1, 5), (1, 5)], [(3, 11), (3, 11), (2, 11), (3, 11)], [(3, 10), (3, 10), (3, 10), (1, 10)], [(3, 11), (3, 11), (3, 11), (2, 11)]]
def ROWS : List (List (Nat × Nat)) := C0 ++ (C1 ++ (C2 ++ (C3 ++ (C4 ++ (C5 ++ (C6 ++ (C7 ++ (C8 ++ (C9 ++ (C10 ++ (C11 ++ (C12 ++ (C13 ++ (C14 ++ (C15 ++ (C16 ++ (C17 ++ (C18 ++ (C19 ++ (C20 ++ (C21 ++ (C22 ++ (C23 ++ (C24 ++ (C25 ++ (C26 ++ (C27 ++ (C28 ++ (C29 ++ (C30 ++ (C31 ++ (C32 ++ (C33 ++ (C34 ++ (C35)))))))))))))))))))))))))))))))))))
noncomputable def ck1 (t : List (Nat × Nat) × Nat) : Bool := cB (memL eqS ROWS t.1) (memL Nat.beq MS t.2) false
theorem chk1 : p1 () ck1 = true := by decide +kernel
theorem chk4 : allL MS (fun m => p4 ([], m) (fun t => true && okG t.2)) = true := by decide +kernel
theorem x0 : allL C0 (fun r => allL MS fun m => p2 (r, m) (pE (r, m))) = true := by decide +kernel
theorem x1 : allL C1 (fun r => allL MS fun m => p2 (r, m) (pE (r, m))) = true := by decide +kernel
theorem x2 : allL C2 (fun r => allL MS fun m => p2 (r, m) (pE (r, m))) = true := by decide +kernel
theorem x3 : allL C3 (fun r => allL MS fun m => p2 (r, m) (pE (r, m))) = true := by decide +kernel
theorem x4 : allL C4 (fun r => allL MS fun m => p2 (r, m) (pE (r, m))) = true := by decide +kernel
theorem x5 : allL C5 (fun r => allL MS fun m => p2 (r, m) (pE (r, m))) = true := by decide +kernel
theorem x6 : allL C6 (fun r => allL MS fun m => p2 (r, m) (pE (r, m))) = true := by decide +kernel
theorem x7 : allL C7 (fun r => allL MS fun m => p2 (r, m) (pE (r, m))) = true := by decide +kernel
theorem x8 : allL C8 (fun r => allL MS fun m => p2 (r, m) (pE (r, m))) = true := by decide +kernel
theorem x9 : allL C9 (fun r => allL MS fun m => p2 (r, m) (pE (r, m))) = true := by decide +kernel
theorem x10 : allL C10 (fun r => allL MS fun m => p2 (r, m) (pE (r, m))) = true := by decide +kernel
theorem x11 : allL C11 (fun r => allL MS fun m => p2 (r, m) (pE (r, m))) = true := by decide +kernel
theorem x12 : allL C12 (fun r => allL MS fun m => p2 (r, m) (pE (r, m))) = true := by decide +kernel
theorem x13 : allL C13 (fun r => allL MS fun m => p2 (r, m) (pE (r, m))) = true := by decide +kernel
theorem x14 : allL C14 (fun r => allL MS fun m => p2 (r, m) (pE (r, m))) = true := by decide +kernel
theorem x15 : allL C15 (fun r => allL MS fun m => p2 (r, m) (pE (r, m))) = true := by decide +kernel
theorem x16 : allL C16 (fun r => allL MS fun m => p2 (r, m) (pE (r, m))) = true := by decide +kernel
theorem x17 : allL C17 (fun r => allL MS fun m => p2 (r, m) (pE (r, m))) = true := by decide +kernel
theorem x18 : allL C18 (fun r => allL MS fun m => p2 (r, m) (pE (r, m))) = true := by decide +kernel
theorem x19 : allL C19 (fun r => allL MS fun m => p2 (r, m) (pE (r, m))) = true := by decide +kernel
theorem x20 : allL C20 (fun r => allL MS fun m => p2 (r, m) (pE (r, m))) = true := by decide +kernel
theorem x21 : allL C21 (fun r => allL MS fun m => p2 (r, m) (pE (r, m))) = true := by decide +kernel
theorem x22 : allL C22 (fun r => allL MS fun m => p2 (r, m) (pE (r, m))) = true := by decide +kernel
theorem x23 : allL C23 (fun r => allL MS fun m => p2 (r, m) (pE (r, m))) = true := by decide +kernel
theorem x24 : allL C24 (fun r => allL MS fun m => p2 (r, m) (pE (r, m))) = true := by decide +kernel
theorem x25 : allL C25 (fun r => allL MS fun m => p2 (r, m) (pE (r, m))) = true := by decide +kernel
theorem x26 : allL C26 (fun r => allL MS fun m => p2 (r, m) (pE (r, m))) = true := by decide +kernel
theorem x27 : allL C27 (fun r => allL MS fun m => p2 (r, m) (pE (r, m))) = true := by decide +kernel
theorem x28 : allL C28 (fun r => allL MS fun m => p2 (r, m) (pE (r, m))) = true := by decide +kernel
theorem x29 : allL C29 (fun r => allL MS fun m => p2 (r, m) (pE (r, m))) = true := by decide +kernel
theorem x30 : allL C30 (fun r => allL MS fun m => p2 (r, m) (pE (r, m))) = true := by decide +kernel
theorem x31 : allL C31 (fun r => allL MS fun m => p2 (r, m) (pE (r, m))) = true := by decide +kernel
theorem x32 : allL C32 (fun r => allL MS fun m => p2 (r, m) (pE (r, m))) = true := by decide +kernel
theorem x33 : allL C33 (fun r => allL MS fun m => p2 (r, m) (pE (r, m))) = true := by decide +kernel
theorem x34 : allL C34 (fun r => allL MS fun m => p2 (r, m) (pE (r, m))) = true := by decide +kernel
theorem x35 : allL C35 (fun r => allL MS fun m => p2 (r, m) (pE (r, m))) = true := by decide +kernel
theorem chk2 : allL ROWS (fun r => allL MS fun m => p2 (r, m) (pE (r, m))) = true := allL_app x0 (allL_app x1 (allL_app x2 (allL_app x3 (allL_app x4 (allL_app x5 (allL_app x6 (allL_app x7 (allL_app x8 (allL_app x9 (allL_app x10 (allL_app x11 (allL_app x12 (allL_app x13 (allL_app x14 (allL_app x15 (allL_app x16 (allL_app x17 (allL_app x18 (allL_app x19 (allL_app x20 (allL_app x21 (allL_app x22 (allL_app x23 (allL_app x24 (allL_app x25 (allL_app x26 (allL_app x27 (allL_app x28 (allL_app x29 (allL_app x30 (allL_app x31 (allL_app x32 (allL_app x33 (allL_app x34 (x35)))))))))))))))))))))))))))))))))))
theorem u0 : allL C0 (fun r => allL MS fun m => p3 (r, m) (pE (r, m))) = true := by decide +kernel
theorem u1 : allL C1 (fun r => allL MS fun m => p3 (r, m) (pE (r, m))) = true := by decide +kernel
theorem u2 : allL C2 (fun r => allL MS fun m => p3 (r, m) (pE (r, m))) = true := by decide +kernel
theorem u3 : allL C3 (fun r => allL MS fun m => p3 (r, m) (pE (r, m))) = true := by decide +kernel
theorem u4 : allL C4 (fun r => allL MS fun m => p3 (r, m) (pE (r, m))) = true := by decide +kernel
theorem u5 : allL C5 (fun r => allL MS fun m => p3 (r, m) (pE (r, m))) = true := by decide +kernel
theorem u6 : allL C6 (fun r => allL MS fun m => p3 (r, m) (pE (r, m))) = true := by decide +kernel
theorem u7 : allL C7 (fun r => allL MS fun m => p3 (r, m) (pE (r, m))) = true := by decide +kernel
theorem u8 : allL C8 (fun r => allL MS fun m => p3 (r, m) (pE (r, m))) = true := by decide +kernel
theorem u9 : allL C9 (fun r => allL MS fun m => p3 (r, m) (pE (r, m))) = true := by decide +kernel
theorem u10 : allL C10 (fun r => allL MS fun m => p3 (r, m) (pE (r, m))) = true := by decide +kernel
theorem u11 : allL C11 (fun r => allL MS fun m => p3 (r, m) (pE (r, m))) = true := by decide +kernel
theorem u12 : allL C12 (fun r => allL MS fun m => p3 (r, m) (pE (r, m))) = true := by decide +kernel
theorem u13 : allL C13 (fun r => allL MS fun m => p3 (r, m) (pE (r, m))) = true := by decide +kernel
theorem u14 : allL C14 (fun r => allL MS fun m => p3 (r, m) (pE (r, m))) = true := by decide +kernel
theorem u15 : allL C15 (fun r => allL MS fun m => p3 (r, m) (pE (r, m))) = true := by decide +kernel
theorem u16 : allL C16 (fun r => allL MS fun m => p3 (r, m) (pE (r, m))) = true := by decide +kernel
theorem u17 : allL C17 (fun r => allL MS fun m => p3 (r, m) (pE (r, m))) = true := by decide +kernel
theorem u18 : allL C18 (fun r => allL MS fun m => p3 (r, m) (pE (r, m))) = true := by decide +kernel
theorem u19 : allL C19 (fun r => allL MS fun m => p3 (r, m) (pE (r, m))) = true := by decide +kernel
theorem u20 : allL C20 (fun r => allL MS fun m => p3 (r, m) (pE (r, m))) = true := by decide +kernel
theorem u21 : allL C21 (fun r => allL MS fun m => p3 (r, m) (pE (r, m))) = true := by decide +kernel
theorem u22 : allL C22 (fun r => allL MS fun m => p3 (r, m) (pE (r, m))) = true := by decide +kernel
theorem u23 : allL C23 (fun r => allL MS fun m => p3 (r, m) (pE (r, m))) = true := by decide +kernel
theorem u24 : allL C24 (fun r => allL MS fun m => p3 (r, m) (pE (r, m))) = true := by decide +kernel
theorem u25 : allL C25 (fun r => allL MS fun m => p3 (r, m) (pE (r, m))) = true := by decide +kernel
theorem u26 : allL C26 (fun r => allL MS fun m => p3 (r, m) (pE (r, m))) = true := by decide +kernel
theorem u27 : allL C27 (fun r => allL MS fun m => p3 (r, m) (pE (r, m))) = true := by decide +kernel
theorem u28 : allL C28 (fun r => allL MS fun m => p3 (r, m) (pE (r, m))) = true := by decide +kernel
theorem u29 : allL C29 (fun r => allL MS fun m => p3 (r, m) (pE (r, m))) = true := by decide +kernel
theorem u30 : allL C30 (fun r => allL MS fun m => p3 (r, m) (pE (r, m))) = true := by decide +kernel
theorem u31 : allL C31 (fun r => allL MS fun m => p3 (r, m) (pE (r, m))) = true := by decide +kernel
theorem u32 : allL C32 (fun r => allL MS fun m => p3 (r, m) (pE (r, m))) = true := by decide +kernel
theorem u33 : allL C33 (fun r => allL MS fun m => p3 (r, m) (pE (r, m))) = true := by decide +kernel
theorem u34 : allL C34 (fun r => allL MS fun m => p3 (r, m) (pE (r, m))) = true := by decide +kernel
theorem u35 : allL C35 (fun r => allL MS fun m => p3 (r, m) (pE (r, m))) = true := by decide +kernel
theorem chk3 : allL ROWS (fun r => allL MS fun m => p3 (r, m) (pE (r, m))) = true := allL_app u0 (allL_app u1 (allL_app u2 (allL_app u3 (allL_app u4 (allL_app u5 (allL_app u6 (allL_app u7 (allL_app u8 (allL_app u9 (allL_app u10 (allL_app u11 (allL_app u12 (allL_app u13 (allL_app u14 (allL_app u15 (allL_app u16 (allL_app u17 (allL_app u18 (allL_app u19 (allL_app u20 (allL_app u21 (allL_app u22 (allL_app u23 (allL_app u24 (allL_app u25 (allL_app u26 (allL_app u27 (allL_app u28 (allL_app u29 (allL_app u30 (allL_app u31 (allL_app u32 (allL_app u33 (allL_app u34 (u35)))))))))))))))))))))))))))))))))))
theorem z0 : allL C0 (fun r => p5 (r, [0])) = true := by decide +kernel
theorem z1 : allL C1 (fun r => p5 (r, [0])) = true := by decide +kernel
theorem z2 : allL C2 (fun r => p5 (r, [0])) = true := by decide +kernel
theorem z3 : allL C3 (fun r => p5 (r, [0])) = true := by decide +kernel
theorem z4 : allL C4 (fun r => p5 (r, [0])) = true := by decide +kernel
theorem z5 : allL C5 (fun r => p5 (r, [0])) = true := by decide +kernel
theorem z6 : allL C6 (fun r => p5 (r, [0])) = true := by decide +kernel
theorem z7 : allL C7 (fun r => p5 (r, [0])) = true := by decide +kernel
theorem z8 : allL C8 (fun r => p5 (r, [0])) = true := by decide +kernel
theorem z9 : allL C9 (fun r => p5 (r, [0])) = true := by decide +kernel
theorem z10 : allL C10 (fun r => p5 (r, [0])) = true := by decide +kernel
theorem z11 : allL C11 (fun r => p5 (r, [0])) = true := by decide +kernel
theorem z12 : allL C12 (fun r => p5 (r, [0])) = true := by decide +kernel
theorem z13 : allL C13 (fun r => p5 (r, [0])) = true := by decide +kernel
theorem z14 : allL C14 (fun r => p5 (r, [0])) = true := by decide +kernel
theorem z15 : allL C15 (fun r => p5 (r, [0])) = true := by decide +kernel
theorem z16 : allL C16 (fun r => p5 (r, [0])) = true := by decide +kernel
theorem z17 : allL C17 (fun r => p5 (r, [0])) = true := by decide +kernel
theorem z18 : allL C18 (fun r => p5 (r, [0])) = true := by decide +kernel
theorem z19 : allL C19 (fun r => p5 (r, [0])) = true := by decide +kernel
theorem z20 : allL C20 (fun r => p5 (r, [0])) = true := by decide +kernel
theorem z21 : allL C21 (fun r => p5 (r, [0])) = true := by decide +kernel
theorem z22 : allL C22 (fun r => p5 (r, [0])) = true := by decide +kernel
theorem z23 : allL C23 (fun r => p5 (r, [0])) = true := by decide +kernel
theorem z24 : allL C24 (fun r => p5 (r, [0])) = true := by decide +kernel
theorem z25 : allL C25 (fun r => p5 (r, [0])) = true := by decide +kernel
theorem z26 : allL C26 (fun r => p5 (r, [0])) = true := by decide +kernel
theorem z27 : allL C27 (fun r => p5 (r, [0])) = true := by decide +kernel
theorem z28 : allL C28 (fun r => p5 (r, [0])) = true := by decide +kernel
theorem z29 : allL C29 (fun r => p5 (r, [0])) = true := by decide +kernel
theorem z30 : allL C30 (fun r => p5 (r, [0])) = true := by decide +kernel
theorem z31 : allL C31 (fun r => p5 (r, [0])) = true := by decide +kernel
theorem z32 : allL C32 (fun r => p5 (r, [0])) = true := by decide +kernel
theorem z33 : allL C33 (fun r => p5 (r, [0])) = true := by decide +kernel
theorem z34 : allL C34 (fun r => p5 (r, [0])) = true := by decide +kernel
theorem z35 : allL C35 (fun r => p5 (r, [0])) = true := by decide +kernel
theorem chk5 : allL ROWS (fun r => p5 (r, [0])) = true := allL_app z0 (allL_app z1 (allL_app z2 (allL_app z3 (allL_app z4 (allL_app z5 (allL_app z6 (allL_app z7 (allL_app z8 (allL_app z9 (allL_app z10 (allL_app z11 (allL_app z12 (allL_app z13 (allL_app z14 (allL_app z15 (allL_app z16 (allL_app z17 (allL_app z18 (allL_app z19 (allL_app z20 (allL_app z21 (allL_app z22 (allL_app z23 (allL_app z24 (allL_app z25 (allL_app z26 (allL_app z27 (allL_app z28 (allL_app z29 (allL_app z30 (allL_app z31 (allL_app z32 (allL_app z33 (allL_app z34 (z35)))))))))))))))))))))))))))))))))))
end K20
namespace K20
open PySem PySem.Spec PyProof.Rows L2 DL DL.TC
abbrev cl (d : Nat) : Nat → List PyData → R PyData := callT T (runs T bs mt d)
theorem callC {ns : List Int} : ∃ c : Int, cl 13 23 [locked (ns.map PyData.int), .int 0] = .ok (.int c) := by
  obtain ⟨c, e⟩ := cell_ok (cl 12) mt (ns := ns) (k := 0)
  refine ⟨c, ?_⟩
  show fin (exec (cl 12) mt cellIR (DL.envOf 2 [locked (ns.map PyData.int), .int 0])) = _
  exact congrArg fin e
theorem callD (c : Int) : ∃ bs' : List Int, bs'.length = 30 ∧ cl 13 24 [.int c, .int 30] = .ok (.list (bs'.map PyData.int)) := by
  obtain ⟨bs', l, e⟩ := draws_ok (cl 12) mt (c := c) (n := 30) (by decide)
  refine ⟨bs', l, ?_⟩
  show fin (exec (cl 12) mt drawsIR (DL.envOf 6 [.int c, .int 30])) = _
  exact congrArg fin e
def P1 (t : List (Nat × Nat) × Nat) : Prop := t.1 ∈ ROWS ∧ t.2 ∈ MS
theorem pE_ok {s t : List (Nat × Nat) × Nat} (hs : P1 s) (h : pE s t = true) : P1 t := by
  rcases cB_ok h with ⟨h1, h2⟩ | ⟨_, h⟩
  · have e1 := eqS_ok _ _ h1
    have e2 := beqN_ok _ _ h2
    exact ⟨e1 ▸ hs.1, e2 ▸ hs.2⟩
  · cases h
theorem body {bs' : List Int} (hl : bs'.length = 30) {ρ' : DL.Env} (b : BefW (E1 bs') (fun _ => True) ρ') : exec (cl 13) mt (g1.thn (g2.thn (g3.thn (g4.thn (g5))))) ρ' = .ok (.ret (.bool true)) := by
  rw [exec_thn]
  obtain ⟨τ1, e1, b1⟩ := pw_next (E := E1 bs') (E' := E1' bs') (P := fun _ => True) (P' := P1) (c := p1) (p' := fun _ t => ck1 t) (fun s t _ h => by
    rcases cB_ok h with ⟨h1, h2⟩ | ⟨_, h⟩
    · exact ⟨memL_ok eqS_ok h1, memL_ok beqN_ok h2⟩
    · cases h) (fun s k => q1 bs' hl 13 (by decide) s k) (fun s _ => by cases s; exact chk1) b
  rw [e1, Q.nok, exec_thn]
  obtain ⟨τ2, e2, b2⟩ := pw_next (E := E2 bs') (E' := E2' bs') (P := P1) (P' := P1) (c := p2) (p' := pE) (fun s t hs h => pE_ok hs h) (fun s k => q2 bs' hl 13 (by decide) s k) (fun s hs => allL_of (allL_of chk2 s.1 hs.1) s.2 hs.2) b1
  rw [e2, Q.nok, exec_thn]
  obtain ⟨τ3, e3, b3⟩ := pw_next (E := E3 bs') (E' := E3' bs') (P := P1) (P' := P1) (c := p3) (p' := pE) (fun s t hs h => pE_ok hs h) (fun s k => q3 bs' hl 13 (by decide) s k) (fun s hs => allL_of (allL_of chk3 s.1 hs.1) s.2 hs.2) b2
  rw [e3, Q.nok, exec_thn]
  obtain ⟨τ4, e4, b4⟩ := pw_next (E := E4 bs') (E' := E4' bs') (P := P1) (P' := fun t => t.1 ∈ ROWS ∧ ∃ k, t.2 = [k]) (c := p4) (p' := fun s t => decide (t.1 = s.1) && okG t.2) (fun s t hs h => by
    rw [Bool.and_eq_true, decide_eq_true_eq] at h
    exact ⟨h.1 ▸ hs.1, okG_ok h.2⟩) (fun s k => q4 bs' hl 13 (by decide) s k) (fun s hs => by
    have e : p4 s (fun t => decide (t.1 = s.1) && okG t.2) = p4 ([], s.2) (fun t => decide (s.1 = s.1) && okG t.2) := rfl
    rw [e, decide_eq_true rfl]
    exact allL_of chk4 s.2 hs.2) b3
  rw [e4, Q.nok]
  exact pw_yes (E := E5 bs') (P := fun t => t.1 ∈ ROWS ∧ ∃ k, t.2 = [k]) (c := p5) (fun s => q5 bs' hl 13 (by decide) s) (fun s hs => by
    obtain ⟨row, good⟩ := s
    obtain ⟨h1, k, h2⟩ := hs
    have h2 : good = [k] := h2
    subst h2
    have e : p5 (row, [k]) = p5 (row, [0]) := rfl
    rw [e]
    exact allL_of chk5 row h1) b4
theorem plain (ns : List Int) : runs T bs mt 14 34 [locked (ns.map PyData.int)] = .ok (.bool true) := by
  obtain ⟨c, hc⟩ := callC (ns := ns)
  obtain ⟨bs', hl, hd⟩ := callD c
  have e0 : exec (cl 13) mt g0 (DL.envOf 19 [locked (ns.map PyData.int)]) = .ok (.next ((DL.envOf 19 [locked (ns.map PyData.int)]).set 14 (.sh (.list (bs'.map PyData.int))))) := by
    have q : ev (cl 13) (.call 24 (.econs (.call 23 (.econs (.var 0) (.econs (.int 0) (.enil)))) (.econs (.int 30) (.enil)))) (hideAt [] 0 (DL.envOf 19 [locked (ns.map PyData.int)])) = .ok (.list (bs'.map PyData.int)) := by
      have q1 : ev (cl 13) (.call 23 (.econs (.var 0) (.econs (.int 0) (.enil)))) (hideAt [] 0 (DL.envOf 19 [locked (ns.map PyData.int)])) = .ok (.int c) := hc
      simp only [ev] at q1 ⊢
      rw [q1]
      exact hd
    unfold g0
    simp only [DL.exec]
    rw [q]
    rfl
  have e1 : exec (cl 13) mt b34 (DL.envOf 19 [locked (ns.map PyData.int)]) = .ok (.ret (.bool true)) := by
    show exec (cl 13) mt (g0.thn _) _ = _
    rw [exec_thn, e0]
    exact body hl ⟨(), trivial, fk_msk (m := [true, true, true, true, true, true, true, true, true, true, true, true, true, true, false, true, true, true, true]) rfl⟩
  show fin (exec (cl 13) mt b34 (DL.envOf 19 [locked (ns.map PyData.int)])) = _
  rw [e1]
  rfl
section
local instance : Tabs := ⟨[]⟩
theorem says {w : World} {K : PySem.W.Frag} {h : Heap} {mg : Str → Option Value} {g : Addr} (X : K.In h) (G : h.Ns mainGlobals mg) (hg : mg ("law" : Str) = some (.ref g)) (c : He.SaysX fa fn [] tf ex w h K) : LamX.LawAtS (PySem.Challenge.rw_chanceworks_k20_whole_ever_born) w K L2.CX0 (14 * (T.gn + 1)) 63 "script" mg g h := by
  obtain ⟨fd, F⟩ := c.t.d.def_ 34 (d := d34) rfl
  have b := FunD.bindsA (ps := ["script"]) F fun _ _ _ _ _ _ us hl => match us, hl with | [_], _ => rfl
  have at_ := He.glo_ok X G (c.t.d.fact 34 (f := .glo "law") rfl)
  have ff : FnFact K mg T bs (tf.map (He.cT K)) 34 ⟨"law", ["script"], []⟩ _ fd := ⟨at_, bind_plain rfl (F.bindsN fun _ _ _ _ _ _ us hl => match us, hl with | [_], _ => rfl), n34, b34, _, _, _, _, _, _, 0, F, s34, rfl, by decide, c34, fun z => absurd rfl z⟩
  have e := hg.symm.trans at_
  cases e
  exact law_at X c (tab X G c.t.d c.more) (by decide) rfl ff (fun s u => b s [u] rfl) plain
end
end K20
open PySem PySem.W PySem.Calls PyProof.Rows
theorem PySem.Challenge.cw_chanceworks_k20_whole_ever_born_holds : PySem.Challenge.rw_chanceworks_k20_whole_ever_born.Holds := by
  w_on; o_law
  refine HandSHeadRun.head_any (r := OpenLaw.row PySem.Challenge.rw_chanceworks_k20_whole_ever_born) (q := view (OpenLaw.row PySem.Challenge.rw_chanceworks_k20_whole_ever_born).prog [46]) (H := K20.hk) (ob := K20.ob) (M := 6000) (loose := K20.loose) (d := HandSHeadRun.topDef (OpenLaw.row PySem.Challenge.rw_chanceworks_k20_whole_ever_born).prog 46) (kwd := []) K20.ob_eq
    (by kernel_rfl) (fun s => by kernel_rfl) K20.runE (by kernel_rfl) (by kernel_rfl) (by kernel_rfl) (by rfl) (by first | assumption | decide +kernel) (by decide +kernel) ⟨rfl, rfl, rfl, rfl, rfl, by decide +kernel⟩ ?hw ?hc
  case hw => w_witness2
  case hc =>
    refine LamX.walk_ofTsE (l := PySem.Challenge.rw_chanceworks_k20_whole_ever_born) (n := 63) (k := 14 * (K20.T.gn + 1)) (x := "script") (CX := fun _ => L2.CX0) rfl (by decide) (by kernel_rfl) ⟨rfl, by decide, by decide⟩ ?F (fun _ _ _ _ _ z => z)
    intro w mg fa h Y G hmg0
    obtain ⟨K, KX, c⟩ := Y
    have hmg : mg ("law" : PySem.Str) = some (.ref fa) := by
      have e : (HandSHeadRun.topDef (OpenLaw.row PySem.Challenge.rw_chanceworks_k20_whole_ever_born).prog 46).name = ("law" : PySem.Str) := by kernel_rfl
      rw [← e]
      exact hmg0
    exact ⟨K, KX, K20.says KX G hmg c⟩
