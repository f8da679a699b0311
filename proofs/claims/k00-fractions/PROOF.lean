import PyProof.Rows.All
import Wide.All
import OpenK.AllK
import Wide.FinOn
import HandS.ForMost
import HandS.Exc
import HandS.ExcOwn
import HandS.TryOnly
import HandS.TryMany
import HandS.WordsExc
import HandS.Defaults
import HandS.Wide
import HandS.TupAny
import HandS.TupMul
import HandS.IsInst
import HandS.Deep
import HandS.Zip
import HandS.Rev
import HandS.Style
import HandS.Flow
import HandS.Iter
import KE.KStateDown
import HandS.Ends
import HandS.More
import HandS.Words
import HandS.Head0
import HandS.Head1
import HandS.Head2
import HandS.HeadEnd
import HandS.HeadHook1
import HandS.HeadHook2
import HandS.HeadHook4
import PySem.Challenge.RW_chanceworks_k00_fractions
set_option Elab.async false
set_option linter.all false
set_option maxRecDepth 100000
set_option maxHeartbeats 4000000
/-! A checked reader for a part of Python over plain data: what is read, and what it gives. -/
namespace DL
open PySem PySem.Spec PyProof.Rows L2

/-- what a step gives: a value, an error of the c-th class, or nothing that is told -/
inductive R (α : Type) where
  | ok (a : α) | ex (c : Nat) | bad
def R.bind {α β : Type} (r : R α) (f : α → R β) : R β := match r with
  | .ok a => f a
  | .ex c => .ex c
  | .bad => .bad
def R.noEx {α : Type} (r : R α) : R α := match r with
  | .ok a => .ok a
  | _ => .bad

mutual
/-- no list and no dict within -/
def pure? (d : PyData) : Bool := match d with
  | .none => true
  | .bool _ => true
  | .int _ => true
  | .str _ => true
  | .tuple xs => pures xs
  | _ => false
termination_by structural d
def pures (d : List PyData) : Bool := match d with
  | [] => true
  | x :: xs => pure? x && pures xs
termination_by structural d
end

inductive Bop where
  | add | sub | mul | fdiv | mod | pow | shl | shr | band | bxor
  deriving DecidableEq
inductive Cop where
  | lt | le | gt | ge | eq | ne | is_ | isnot | in_ | notin
  deriving DecidableEq
inductive Blt where
  | len | abs | int | str | tuple | list | min2 | max2 | sum | min1 | max1
  deriving DecidableEq

/-- the longest thing that is read -/
def big : Nat := 1000000

def truth (d : PyData) : R Bool := match d with
  | .none => .ok false
  | .bool b => .ok b
  | .int i => .ok (i != 0)
  | .str x => if x.length ≤ big then .ok ((x.length : Int) != 0) else .bad
  | .list xs => .ok (!xs.isEmpty)
  | .tuple xs => .ok (!xs.isEmpty)
  | .dict _ => .bad

def smallI (i : Int) : Bool := Nat.blt i.natAbs 18446744073709551616
def mulOk (i j : Int) : Bool := smallI i || smallI j || decide (i.natAbs.log2 + j.natAbs.log2 < 1000000)
def repL (xs : List PyData) (k : Nat) : List PyData := (List.replicate k xs).flatten
def binD (o : Bop) (a b : PyData) : R PyData := match o, a, b with
  | .add, .int i, .int j => .ok (.int (i + j))
  | .add, .str x, .str y => if x.length + y.length ≤ big then .ok (.str (x ++ y)) else .bad
  | .add, .list xs, .list ys => if xs.length + ys.length ≤ big then .ok (.list (xs ++ ys)) else .bad
  | .add, .tuple xs, .tuple ys => if xs.length + ys.length ≤ big then .ok (.tuple (xs ++ ys)) else .bad
  | .sub, .int i, .int j => .ok (.int (i - j))
  | .mul, .int i, .int j => if mulOk i j then .ok (.int (i * j)) else .bad
  | .mul, .list xs, .int k => if k ≤ 100000 ∧ -100000 ≤ k ∧ xs.length * k.toNat ≤ big then .ok (.list (repL xs k.toNat)) else .bad
  | .mul, .tuple xs, .int k => if k ≤ 1000 ∧ 1 ≤ k ∧ xs.length ≤ 1000 ∧ xs.isEmpty = false then .ok (.tuple (repL xs k.toNat)) else .bad
  | .fdiv, .int i, .int j => if 0 < j ∧ j.natAbs.log2 < 9000 then .ok (.int (i / j)) else .bad
  | .mod, .int i, .int j => if 0 < j then .ok (.int (i % j)) else .bad
  | .pow, .int i, .int j => if 0 ≤ j ∧ j ≤ 1000000 ∧ i.natAbs < 18446744073709551616 then .ok (.int (i ^ j.toNat)) else .bad
  | .shl, .int i, .int j => if 0 ≤ j ∧ j ≤ 1000000 ∧ i.natAbs < 18446744073709551616 then .ok (.int (i * ((2 ^ j.toNat : Nat) : Int))) else .bad
  | .shr, .int i, .int j => if 0 ≤ j then .ok (.int (i / ((2 ^ j.toNat : Nat) : Int))) else .bad
  | .band, .int i, .int j => .ok (.int (Builtin.bitAnd i j))
  | .bxor, .int i, .int j => .ok (.int (Builtin.bitXor i j))
  | _, _, _ => .bad
def eqD (a b : PyData) : R Bool := match a, b with
  | .int i, .int j => .ok (i == j)
  | .bool x, .bool y => .ok (x == y)
  | .none, .none => .ok true
  | _, _ => if SeqAt.shaped a && SeqAt.shaped b then .ok (PyData.eqv a b) else .bad
def scalar (d : PyData) : Bool := match d with
  | .none => true
  | .bool _ => true
  | .int _ => true
  | .str _ => true
  | _ => false
def inD (a : PyData) (xs : List PyData) : R Bool := if scalar a && xs.all scalar then .ok (xs.any fun y => PyData.eqv y a) else .bad
def isNone (d : PyData) : Bool := match d with
  | .none => true
  | _ => false
def cmpD (o : Cop) (a b : PyData) : R Bool := match o, a, b with
  | .lt, .int i, .int j => .ok (decide (i < j))
  | .le, .int i, .int j => .ok (decide (i ≤ j))
  | .gt, .int i, .int j => .ok (decide (j < i))
  | .ge, .int i, .int j => .ok (decide (j ≤ i))
  | .eq, a, b => eqD a b
  | .ne, a, b => (eqD a b).bind fun k => .ok (!k)
  | .is_, a, .none => .ok (isNone a)
  | .isnot, a, .none => .ok (!isNone a)
  | .in_, a, .tuple xs => inD a xs
  | .in_, a, .list xs => inD a xs
  | .notin, a, .tuple xs => (inD a xs).bind fun k => .ok (!k)
  | .notin, a, .list xs => (inD a xs).bind fun k => .ok (!k)
  | _, _, _ => .bad
/-- the place in a row that a number of any sign tells -/
def atD (xs : List PyData) (i : Int) : R PyData := match i with
  | .ofNat k => (match xs[k]? with
    | some d => .ok d
    | none => .bad)
  | .negSucc k => if k < xs.length then (match xs[xs.length - (k + 1)]? with
    | some d => .ok d
    | none => .bad) else .bad
/-- a list that is locked (the script) -/
def locked (xs : List PyData) : PyData := .dict [(.none, .list xs)]
def subD (a i : PyData) : R PyData := match a, i with
  | .tuple xs, .int k => atD xs k
  | .list xs, .int k => atD xs k
  | .dict [(.none, .list xs)], .int k => atD xs k
  | _, _ => .bad
def partD (d : PyData) : R (Option Int) := match d with
  | .none => .ok none
  | .int i => .ok (some i)
  | _ => .bad
def numD (d : PyData) : R PyData := match d with
  | .int i => .ok (.int i)
  | _ => .bad
def cutD (xs : List PyData) (lo hi : Option Int) : List PyData := (xs.drop (HT.sIx xs.length 0 lo)).take (HT.sIx xs.length xs.length hi - HT.sIx xs.length 0 lo)
def sliceD (a : PyData) (lo hi : Option Int) : R PyData := match a with
  | .tuple xs => .ok (.tuple (cutD xs lo hi))
  | .list xs => .ok (.list (cutD xs lo hi))
  | _ => .bad
def revD (d : PyData) : R PyData := match d with
  | .list xs => .ok (.list xs.reverse)
  | _ => .bad
def intsOf : List PyData → Option (List Int)
  | [] => some []
  | .int i :: r => (match intsOf r with
    | some ns => some (i :: ns)
    | none => none)
  | _ :: _ => none
/-- the least, the greatest -/
def lowI (n : Int) : List Int → Int
  | [] => n
  | m :: ns => lowI (if m < n then m else n) ns
def highI (n : Int) : List Int → Int
  | [] => n
  | m :: ns => highI (if n < m then m else n) ns
def lowD (xs : List PyData) : R PyData := match intsOf xs with
  | some (n :: ns) => .ok (.int (lowI n ns))
  | _ => .bad
def highD (xs : List PyData) : R PyData := match intsOf xs with
  | some (n :: ns) => .ok (.int (highI n ns))
  | _ => .bad
def sumD (xs : List PyData) : R PyData := match intsOf xs with
  | some ns => .ok (.int ns.sum)
  | none => .bad
def bltD (b : Blt) (ds : List PyData) : R PyData := match b, ds with
  | .len, [.tuple xs] => .ok (.int xs.length)
  | .len, [.list xs] => .ok (.int xs.length)
  | .len, [.dict [(.none, .list xs)]] => .ok (.int xs.length)
  | .len, [.str x] => if x.length ≤ big then .ok (.int x.length) else .bad
  | .abs, [.int i] => .ok (.int (if i < 0 then -i else i))
  | .int, [.int i] => .ok (.int i)
  | .int, [.bool b] => .ok (.int (if b then 1 else 0))
  | .str, [.int i] => if i.natAbs.log2 < 1920 then .ok (.str (toString i)) else .bad
  | .tuple, [.list xs] => .ok (.tuple xs)
  | .tuple, [.tuple xs] => .ok (.tuple xs)
  | .list, [.list xs] => .ok (.list xs)
  | .list, [.tuple xs] => .ok (.list xs)
  | .min2, [.int i, .int j] => .ok (.int (if j < i then j else i))
  | .max2, [.int i, .int j] => .ok (.int (if j > i then j else i))
  | .sum, [.list xs] => sumD xs
  | .sum, [.tuple xs] => sumD xs
  | .min1, [.list xs] => lowD xs
  | .min1, [.tuple xs] => lowD xs
  | .max1, [.list xs] => highD xs
  | .max1, [.tuple xs] => highD xs
  | _, _ => .bad
/-- isinstance against a built-in class -/
def isiD (a : PyData) (T : String) : R Bool := match a with
  | .none => (match kitB "NoneType" T with
    | some b => .ok b
    | none => .bad)
  | .bool _ => (match kitB "bool" T with
    | some b => .ok b
    | none => .bad)
  | .int _ => (match kitB "int" T with
    | some b => .ok b
    | none => .bad)
  | .str _ => (match kitB "str" T with
    | some b => .ok b
    | none => .bad)
  | .list _ => (match kitB "list" T with
    | some b => .ok b
    | none => .bad)
  | .tuple _ => (match kitB "tuple" T with
    | some b => .ok b
    | none => .bad)
  | .dict _ => .bad

/-- a slot of a frame: not known; a value that stays; a list of one's own; a list of lists of one's own -/
inductive Sl where
  | un | sh (d : PyData) | o1 (ds : List PyData) | o2 (dss : List (List PyData))
abbrev Env := List Sl
def Sl.val : Sl → Option PyData
  | .un => none
  | .sh d => some d
  | .o1 ds => some (.list ds)
  | .o2 dss => some (.list (dss.map PyData.list))

/-- a target: a name, or names of a tuple -/
inductive Tg where
  | one (i : Nat) | many (is : List Nat)
def bindMany : List Nat → List PyData → Env → Option Env
  | [], [], ρ => some ρ
  | i :: is, d :: ds, ρ => bindMany is ds (ρ.set i (.sh d))
  | _, _, _ => none
def bindT (t : Tg) (d : PyData) (ρ : Env) : Option Env := match t with
  | .one i => some (ρ.set i (.sh d))
  | .many is => (match d with
    | .tuple ds => bindMany is ds ρ
    | _ => none)
def wipeE (ρ : Env) : List Nat → Env
  | [] => ρ
  | v :: vs => (wipeE ρ vs).set v .un

/-- expressions, argument lists, walked things -/
inductive IE where
  | var (i : Nat)
  | int (i : Int) | bl (b : Bool) | non | str (x : Str)
  | glob (j : Nat) (d : PyData)
  | bin (o : Bop) (a b : IE)
  | neg (a : IE)
  | cmp (o : Cop) (a b : IE)
  | chain (o o' : Cop) (a b c : IE)
  | not (a : IE)
  | and (a b : IE) | or (a b : IE) | one (a : IE)
  | ite (c a b : IE)
  | tup (es : IE) | lst (es : IE)
  | sub (a i : IE)
  | slice (a lo hi : IE)
  | rev (a : IE)
  | call (j : Nat) (es : IE)
  | blt (b : Blt) (es : IE)
  | isi (a : IE) (T : String)
  | lc (own : List Nat) (own' : List (Str × Nat)) (tg : Tg) (it cond elt : IE)
  | enil | econs (h t : IE) | nopart | part (a : IE)
  | iseq (a : IE) | ir1 (a : IE) | ir2 (a b : IE) | ienum (a : IE) | izip (a b : IE) | irev (a : IE) | ir3 (a b c : IE)

def rng (lo : Int) (n : Nat) : List PyData := (List.range n).map fun k => .int (lo + (k : Nat))
def bnd (i : Int) : Bool := Nat.blt i.natAbs 4611686018427387904
def enumFrom (k : Nat) : List PyData → List PyData
  | [] => []
  | d :: ds => .tuple [.int k, d] :: enumFrom (k + 1) ds
def zipD : List PyData → List PyData → List PyData
  | d :: ds, e :: es => .tuple [d, e] :: zipD ds es
  | _, _ => []
def seqOf (d : PyData) : R (List PyData) := match d with
  | .list xs => .ok xs
  | .tuple xs => .ok xs
  | _ => .bad
def tupOf (d : PyData) : R (List PyData) := match d with
  | .tuple xs => .ok xs
  | _ => .bad
def lstOf (d : PyData) : R (List PyData) := match d with
  | .list xs => .ok xs
  | _ => .bad

def negD (d : PyData) : R PyData := match d with
  | .int i => .ok (.int (-i))
  | _ => .bad
def lstD (d : PyData) : R PyData := match d with
  | .tuple xs => .ok (.list xs)
  | _ => .bad
def unT (f : List PyData → R PyData) (d : PyData) : R PyData := match d with
  | .tuple xs => f xs
  | _ => .bad
def consD (x d : PyData) : R PyData := match d with
  | .tuple xs => .ok (.tuple (x :: xs))
  | _ => .bad
def r1D (d : PyData) : R PyData := match d with
  | .int n => if bnd n then .ok (.list (rng 0 n.toNat)) else .bad
  | _ => .bad
def r2D (x y : PyData) : R PyData := match x, y with
  | .int m, .int n => if bnd m && bnd n then .ok (.list (rng m (n - m).toNat)) else .bad
  | _, _ => .bad
def r3D (x y z : PyData) : R PyData := match x, y, z with
  | .int i, .int j, .int c => if c ≠ 0 ∧ c.natAbs < 1073741824 ∧ Builtin.Range.small i j c = true ∧ 0 ≤ Builtin.Range.rangeSize i j c then .ok (.list ((List.range (Builtin.Range.rangeSize i j c).toNat).map fun k => .int (i + (k : Nat) * c))) else .bad
  | _, _, _ => .bad
/-- the turns of a comprehension -/
def lcGo (tg : Tg) (fc fe : Env → R PyData) (ρ : Env) : List PyData → R (List PyData)
  | [] => .ok []
  | d :: ds => match bindT tg d ρ with
    | none => .bad
    | some ρ' => match (fc ρ').bind truth with
      | .ok true => (match fe ρ' with
        | .ok y => (match lcGo tg fc fe ρ ds with
          | .ok ys => .ok (y :: ys)
          | _ => .bad)
        | _ => .bad)
      | .ok false => lcGo tg fc fe ρ ds
      | _ => .bad

def lcD (own : List Nat) (t : Tg) (fi fc fe : Env → R PyData) (ρ : Env) : R PyData := (fi ρ).bind fun x => match x with
  | .list xs => if xs.length ≤ big then (match lcGo t fc fe (wipeE ρ own) xs with
    | .ok ys => .ok (.list ys)
    | _ => .bad) else .bad
  | _ => .bad
def ev (call : Nat → List PyData → R PyData) (e : IE) (ρ : Env) : R PyData := match e with
  | .var i => (match ρ[i]? with
    | some s => (match s.val with
      | some d => .ok d
      | none => .bad)
    | none => .bad)
  | .int i => .ok (.int i)
  | .bl b => .ok (.bool b)
  | .non => .ok .none
  | .str x => .ok (.str x)
  | .glob _ d => .ok d
  | .bin o a b => (ev call a ρ).bind fun x => (ev call b ρ).bind fun y => binD o x y
  | .neg a => (ev call a ρ).bind negD
  | .cmp o a b => (ev call a ρ).bind fun x => (ev call b ρ).bind fun y => (cmpD o x y).bind fun k => .ok (.bool k)
  | .chain o o' a b c => (ev call a ρ).bind fun x => (ev call b ρ).bind fun y => (cmpD o x y).bind fun k => if k then (ev call c ρ).bind fun z => (cmpD o' y z).bind fun k' => .ok (.bool k') else .ok (.bool false)
  | .not a => (ev call a ρ).bind fun x => (truth x).bind fun k => .ok (.bool (!k))
  | .and a b => (ev call a ρ).bind fun x => (truth x).bind fun k => if k then ev call b ρ else .ok x
  | .or a b => (ev call a ρ).bind fun x => (truth x).bind fun k => if k then .ok x else ev call b ρ
  | .one a => ev call a ρ
  | .ite c a b => (ev call c ρ).bind fun x => (truth x).bind fun k => if k then ev call a ρ else ev call b ρ
  | .tup es => ev call es ρ
  | .lst es => (ev call es ρ).bind lstD
  | .sub a i => (ev call a ρ).bind fun x => (ev call i ρ).bind fun y => subD x y
  | .slice a lo hi => (ev call a ρ).bind fun x => (ev call lo ρ).bind fun l => (partD l).bind fun l' => (ev call hi ρ).bind fun h => (partD h).bind fun h' => sliceD x l' h'
  | .rev a => (ev call a ρ).bind revD
  | .call j es => (ev call es ρ).bind (unT (call j))
  | .blt b es => (ev call es ρ).bind (unT (bltD b))
  | .isi a T => (ev call a ρ).bind fun x => (isiD x T).bind fun k => .ok (.bool k)
  | .lc own _ tg it cond elt => lcD own tg (ev call it) (ev call cond) (ev call elt) ρ
  | .enil => .ok (.tuple [])
  | .econs h t => (ev call h ρ).bind fun x => (ev call t ρ).bind (consD x)
  | .nopart => .ok .none
  | .part a => (ev call a ρ).bind numD
  | .iseq a => (ev call a ρ).bind fun x => (seqOf x).bind fun xs => .ok (.list xs)
  | .ir1 a => (ev call a ρ).bind r1D
  | .ir2 a b => (ev call a ρ).bind fun x => (ev call b ρ).bind (r2D x)
  | .ienum a => (ev call a ρ).bind fun x => (seqOf x).bind fun xs => .ok (.list (enumFrom 0 xs))
  | .izip a b => (ev call a ρ).bind fun x => (ev call b ρ).bind fun y => (seqOf x).bind fun xs => (seqOf y).bind fun ys => .ok (.list (zipD xs ys))
  | .irev a => (ev call a ρ).bind fun x => (seqOf x).bind fun xs => .ok (.list xs.reverse)
  | .ir3 a b c => (ev call a ρ).bind fun x => (ev call b ρ).bind fun y => (ev call c ρ).bind (r3D x y)
termination_by structural e

inductive Fl where
  | next (ρ : Env) | ret (d : PyData)

/-- the lists of one's own but those at fz are hidden -/
def hideAt (fz : List Nat) : Nat → Env → Env
  | _, [] => []
  | n, s :: r => (match s with
    | .o1 _ => if fz.contains n then s else .un
    | .o2 _ => if fz.contains n then s else .un
    | _ => s) :: hideAt fz (n + 1) r
/-- the slots at fz are given up -/
def giveUp (s : Sl) : Sl := match s.val with
  | some d => .sh d
  | none => .un
def give (fz : List Nat) (ρ : Env) : Env := match fz with
  | [] => ρ
  | i :: r => (match ρ[i]? with
    | some s => (give r ρ).set i (giveUp s)
    | none => give r ρ)
def whileGo (fc : Env → R PyData) (fb : Env → R Fl) : Nat → Env → R Fl
  | 0, _ => .bad
  | n + 1, ρ => ((fc ρ).bind truth).bind fun k => if k then (fb ρ).bind fun f => (match f with
    | .next ρ' => whileGo fc fb n ρ'
    | .ret d => .ok (.ret d)) else .ok (.next ρ)
def forGo (tg : Tg) (fb : Env → R Fl) : List PyData → Env → R Fl
  | [], ρ => .ok (.next ρ)
  | d :: ds, ρ => match bindT tg d ρ with
    | none => .bad
    | some ρ' => (fb ρ').bind fun f => (match f with
      | .next ρ'' => forGo tg fb ds ρ''
      | .ret d => .ok (.ret d))
def R.next (r : R Fl) (f : Env → R Fl) : R Fl := r.bind fun x => match x with
  | .next ρ => f ρ
  | .ret d => .ok (.ret d)
def setMany : List Nat → List PyData → Env → Env
  | i :: is, d :: ds, ρ => setMany is ds (ρ.set i (.sh d))
  | _, _, ρ => ρ

end DL
namespace DL
open PySem PySem.Spec PyProof.Rows L2

abbrev St := L2.St
/-! ### what stands for a datum -/
def Sub (S H : Hp) : Prop := ∀ b o, S b = some o → H b = some o
theorem Sub.refl (S : Hp) : Sub S S := fun _ _ h => h
theorem Sub.trans {A B C : Hp} (h : Sub A B) (g : Sub B C) : Sub A C := fun b o e => g b o (h b o e)
mutual
def Rp (K : PySem.W.Frag) (S : Hp) (d : PyData) (v : V) : Prop := match d with
  | .none => v = .non
  | .bool b => v = .bl b
  | .int i => v = .int i
  | .str x => v = .str x
  | .list ds => ∃ a xs, v = .ref a ∧ S a = some (.lst xs) ∧ RpA K S ds xs
  | .tuple ds => ∃ a xs, v = .ref a ∧ SqT K S a xs ∧ RpA K S ds xs
  | .dict kvs => ∃ (a : Addr) (ns : List Int), kvs = [(.none, .list (ns.map PyData.int))] ∧ v = .ref a ∧ SqL K S a (ns.map V.int)
termination_by structural d
def RpA (K : PySem.W.Frag) (S : Hp) (ds : List PyData) (vs : List V) : Prop := match ds with
  | [] => vs = []
  | d :: ds => ∃ v r, vs = v :: r ∧ Rp K S d v ∧ RpA K S ds r
termination_by structural ds
end
section
variable {K : PySem.W.Frag} {S S' H : Hp}
theorem SqT.sub {a : Addr} {xs : List V} (h : Sub S H) (q : SqT K S a xs) : SqT K H a xs := by
  rcases q with (q | ⟨o, q⟩) | q
  · exact .inl (.inl (h _ _ q))
  · exact .inl (.inr ⟨o, h _ _ q⟩)
  · exact .inr q
theorem SqL.sub {a : Addr} {xs : List V} (h : Sub S H) (q : SqL K S a xs) : SqL K H a xs := by
  rcases q with (q | ⟨o, q⟩) | q
  · exact .inl (.inl (h _ _ q))
  · exact .inl (.inr ⟨o, h _ _ q⟩)
  · exact .inr q
mutual
theorem Rp.sub (h : Sub S H) : ∀ (d : PyData) (v : V), Rp K S d v → Rp K H d v
  | .none, v, q => by simp only [Rp] at q ⊢; exact q
  | .bool b, v, q => by simp only [Rp] at q ⊢; exact q
  | .int b, v, q => by simp only [Rp] at q ⊢; exact q
  | .str b, v, q => by simp only [Rp] at q ⊢; exact q
  | .list ds, v, q => by
    simp only [Rp] at q ⊢
    obtain ⟨a, xs, e, q1, q2⟩ := q
    exact ⟨a, xs, e, h _ _ q1, RpA.sub h ds xs q2⟩
  | .tuple ds, v, q => by
    simp only [Rp] at q ⊢
    obtain ⟨a, xs, e, q1, q2⟩ := q
    exact ⟨a, xs, e, SqT.sub h q1, RpA.sub h ds xs q2⟩
  | .dict kvs, v, q => by
    simp only [Rp] at q ⊢
    obtain ⟨a, ns, e1, e2, e3⟩ := q
    exact ⟨a, ns, e1, e2, SqL.sub h e3⟩
theorem RpA.sub (h : Sub S H) : ∀ (ds : List PyData) (vs : List V), RpA K S ds vs → RpA K H ds vs
  | [], vs, q => by simp only [RpA] at q ⊢; exact q
  | d :: ds, vs, q => by
    simp only [RpA] at q ⊢
    obtain ⟨v, r, e, q1, q2⟩ := q
    exact ⟨v, r, e, Rp.sub h d v q1, RpA.sub h ds r q2⟩
end
mutual
theorem Rp.pure (h : ∀ a xs, SqT K S a xs → SqT K S' a xs) : ∀ (d : PyData) (v : V), pure? d = true → Rp K S d v → Rp K S' d v
  | .none, v, _, q => by simp only [Rp] at q ⊢; exact q
  | .bool b, v, _, q => by simp only [Rp] at q ⊢; exact q
  | .int b, v, _, q => by simp only [Rp] at q ⊢; exact q
  | .str b, v, _, q => by simp only [Rp] at q ⊢; exact q
  | .list ds, v, p, q => by simp [pure?] at p
  | .tuple ds, v, p, q => by
    simp only [Rp] at q ⊢
    simp only [pure?] at p
    obtain ⟨a, xs, e, q1, q2⟩ := q
    exact ⟨a, xs, e, h _ _ q1, RpA.pure h ds xs p q2⟩
  | .dict kvs, v, p, q => by simp [pure?] at p
theorem RpA.pure (h : ∀ a xs, SqT K S a xs → SqT K S' a xs) : ∀ (ds : List PyData) (vs : List V), pures ds = true → RpA K S ds vs → RpA K S' ds vs
  | [], vs, _, q => by simp only [RpA] at q ⊢; exact q
  | d :: ds, vs, p, q => by
    simp only [RpA] at q ⊢
    simp only [pures, Bool.and_eq_true] at p
    obtain ⟨v, r, e, q1, q2⟩ := q
    exact ⟨v, r, e, Rp.pure h d v p.1 q1, RpA.pure h ds r p.2 q2⟩
end
theorem SqL.ofS {a : Addr} {xs : List V} (h : S a = some (.lst xs)) : SqL K S a xs := .inl (.inl h)
mutual
theorem Rp.dp : ∀ (d : PyData) (v : V), d.canLay0 = true → Rp K S d v → Dp K S v d
  | .none, v, _, q => by simp only [Rp] at q; subst q; exact .non
  | .bool b, v, _, q => by simp only [Rp] at q; subst q; exact .bl _
  | .int b, v, _, q => by simp only [Rp] at q; subst q; exact .int _
  | .str b, v, _, q => by simp only [Rp] at q; subst q; exact .str _
  | .list ds, v, p, q => by
    simp only [Rp] at q
    obtain ⟨a, xs, e, q1, q2⟩ := q
    subst e
    simp only [PyData.canLay0] at p
    exact .lst (SqL.ofS q1) (RpA.dp ds xs p q2)
  | .tuple ds, v, p, q => by
    simp only [Rp] at q
    obtain ⟨a, xs, e, q1, q2⟩ := q
    subst e
    simp only [PyData.canLay0] at p
    exact .tup q1 (RpA.dp ds xs p q2)
  | .dict kvs, v, p, q => by simp [PyData.canLay0] at p
theorem RpA.dp : ∀ (ds : List PyData) (vs : List V), PyData.canLayAll0 ds = true → RpA K S ds vs → DpAll K S vs ds
  | [], vs, _, q => by simp only [RpA] at q; subst q; exact .nil
  | d :: ds, vs, p, q => by
    simp only [RpA] at q
    obtain ⟨v, r, e, q1, q2⟩ := q
    subst e
    simp only [PyData.canLayAll0, Bool.and_eq_true] at p
    exact .cons (Rp.dp d v p.1 q1) (RpA.dp ds r p.2 q2)
end
theorem RpA.length : ∀ {ds : List PyData} {vs : List V}, RpA K S ds vs → vs.length = ds.length
  | [], vs, q => by simp only [RpA] at q; subst q; rfl
  | d :: ds, vs, q => by
    simp only [RpA] at q
    obtain ⟨v, r, e, q1, q2⟩ := q
    subst e
    simp only [List.length_cons, RpA.length q2]
theorem RpA.get : ∀ {ds : List PyData} {vs : List V} {i : Nat} {d : PyData}, RpA K S ds vs → ds[i]? = some d → ∃ v, vs[i]? = some v ∧ Rp K S d v
  | [], vs, i, d, q, h => by simp at h
  | d' :: ds, vs, i, d, q, h => by
    simp only [RpA] at q
    obtain ⟨v, r, e, q1, q2⟩ := q
    subst e
    cases i with
    | zero =>
      simp only [List.getElem?_cons_zero, Option.some.injEq] at h
      subst h
      exact ⟨v, rfl, q1⟩
    | succ i =>
      rw [List.getElem?_cons_succ] at h ⊢
      exact RpA.get q2 h
theorem RpA.get' : ∀ {ds : List PyData} {vs : List V} {i : Nat} {v : V}, RpA K S ds vs → vs[i]? = some v → ∃ d, ds[i]? = some d ∧ Rp K S d v
  | [], vs, i, d, q, h => by simp only [RpA] at q; subst q; simp at h
  | d' :: ds, vs, i, d, q, h => by
    simp only [RpA] at q
    obtain ⟨v, r, e, q1, q2⟩ := q
    subst e
    cases i with
    | zero =>
      simp only [List.getElem?_cons_zero, Option.some.injEq] at h
      subst h
      exact ⟨d', rfl, q1⟩
    | succ i =>
      rw [List.getElem?_cons_succ] at h ⊢
      exact RpA.get' q2 h
theorem RpA.nil : RpA K S [] [] := by simp only [RpA]
theorem RpA.cons {d : PyData} {v : V} {ds : List PyData} {vs : List V} (h : Rp K S d v) (g : RpA K S ds vs) : RpA K S (d :: ds) (v :: vs) := by
  simp only [RpA]
  exact ⟨v, vs, rfl, h, g⟩
theorem RpA.append : ∀ {ds : List PyData} {vs : List V} {es : List PyData} {us : List V}, RpA K S ds vs → RpA K S es us → RpA K S (ds ++ es) (vs ++ us)
  | [], vs, es, us, q, h => by simp only [RpA] at q; subst q; exact h
  | d :: ds, vs, es, us, q, h => by
    simp only [RpA] at q
    obtain ⟨v, r, e, q1, q2⟩ := q
    subst e
    exact RpA.cons q1 (RpA.append q2 h)
theorem RpA.set : ∀ {ds : List PyData} {vs : List V} {d : PyData} {v : V} (i : Nat), RpA K S ds vs → Rp K S d v → RpA K S (ds.set i d) (vs.set i v)
  | [], vs, d, v, i, q, h => by simp only [RpA] at q; subst q; simpa using RpA.nil
  | d' :: ds, vs, d, v, i, q, h => by
    simp only [RpA] at q
    obtain ⟨v', r, e, q1, q2⟩ := q
    subst e
    cases i with
    | zero => exact RpA.cons h q2
    | succ i => exact RpA.cons q1 (RpA.set i q2 h)
theorem RpA.drop : ∀ {ds : List PyData} {vs : List V} (n : Nat), RpA K S ds vs → RpA K S (ds.drop n) (vs.drop n)
  | [], vs, n, q => by simp only [RpA] at q; subst q; simpa using RpA.nil
  | d :: ds, vs, 0, q => q
  | d :: ds, vs, n + 1, q => by
    simp only [RpA] at q
    obtain ⟨v', r, e, q1, q2⟩ := q
    subst e
    exact RpA.drop n q2
theorem RpA.take : ∀ {ds : List PyData} {vs : List V} (n : Nat), RpA K S ds vs → RpA K S (ds.take n) (vs.take n)
  | [], vs, n, q => by simp only [RpA] at q; subst q; simpa using RpA.nil
  | d :: ds, vs, 0, q => by simpa using RpA.nil
  | d :: ds, vs, n + 1, q => by
    simp only [RpA] at q
    obtain ⟨v', r, e, q1, q2⟩ := q
    subst e
    exact RpA.cons q1 (RpA.take n q2)
theorem RpA.reverse {ds : List PyData} {vs : List V} (q : RpA K S ds vs) : RpA K S ds.reverse vs.reverse := by
  induction ds generalizing vs with
  | nil => simp only [RpA] at q; subst q; simpa using RpA.nil
  | cons d ds ih =>
    simp only [RpA] at q
    obtain ⟨v', r, e, q1, q2⟩ := q
    subst e
    rw [List.reverse_cons, List.reverse_cons]
    exact RpA.append (ih q2) (RpA.cons q1 RpA.nil)
theorem RpA.rep {ds : List PyData} {vs : List V} (q : RpA K S ds vs) : ∀ k : Nat, RpA K S (List.replicate k ds).flatten (List.replicate k vs).flatten
  | 0 => RpA.nil
  | k + 1 => by
    rw [List.replicate_succ, List.replicate_succ, List.flatten_cons, List.flatten_cons]
    exact RpA.append q (RpA.rep q k)
theorem RpA.ints : ∀ {ds : List PyData} {vs : List V} {ns : List Int}, RpA K S ds vs → intsOf ds = some ns → vs = ns.map V.int
  | [], vs, ns, q, h => by
    simp only [RpA] at q; subst q
    simp only [intsOf, Option.some.injEq] at h
    subst h; rfl
  | d :: ds, vs, ns, q, h => by
    simp only [RpA] at q
    obtain ⟨v', r, e, q1, q2⟩ := q
    subst e
    cases d <;> simp only [intsOf] at h <;> try cases h
    rename_i i
    cases e : intsOf ds with
    | none => rw [e] at h; cases h
    | some ms =>
      rw [e] at h
      simp only [Option.some.injEq] at h
      subst h
      have e2 := RpA.ints q2 e
      subst e2
      have e3 : v' = .int i := by simpa only [Rp] using q1
      subst e3
      rfl
theorem RpA.ofInts (ns : List Int) : RpA K S (ns.map PyData.int) (ns.map V.int) := by
  induction ns with
  | nil => exact RpA.nil
  | cons n ns ih => exact RpA.cons (by simp only [Rp]) ih
theorem Rp.tup {a : Addr} {xs : List V} {ds : List PyData} (h : S a = some (.tup xs)) (q : RpA K S ds xs) : Rp K S (.tuple ds) (.ref a) := by
  simp only [Rp]
  exact ⟨a, xs, rfl, .inl (.inl h), q⟩
theorem Rp.lst {a : Addr} {xs : List V} {ds : List PyData} (h : S a = some (.lst xs)) (q : RpA K S ds xs) : Rp K S (.list ds) (.ref a) := by
  simp only [Rp]
  exact ⟨a, xs, rfl, h, q⟩
end

/-! ### a heap that has grown, beside the part that stays -/
structure Grow (H S H' S' : Hp) : Prop where
  h : Sub H H'
  s : Sub S S'
  in_ : Sub S' H'
  new : ∀ b, S b = none → S' b ≠ none → H b = none
theorem Grow.refl {H S : Hp} (h : Sub S H) : Grow H S H S := ⟨Sub.refl _, Sub.refl _, h, fun _ a b => absurd a b⟩
theorem Grow.trans {H S H1 S1 H2 S2 : Hp} (a : Grow H S H1 S1) (b : Grow H1 S1 H2 S2) : Grow H S H2 S2 := by
  refine ⟨a.h.trans b.h, a.s.trans b.s, b.in_, fun c e n => ?_⟩
  by_cases q : S1 c = none
  · have r := b.new c q n
    cases z : H c with
    | none => rfl
    | some o => rw [a.h c o z] at r; cases r
  · exact a.new c e q
theorem sub_upd {S : Hp} {p : Addr} {o : HO} (n : S p = none) : Sub S (upd S p o) := fun b u e => by
  rw [upd_ne (fun z => by rw [z, n] at e; cases e)]; exact e
theorem sub_upd2 {S H : Hp} {p : Addr} {o : HO} (h : Sub S H) : Sub (upd S p o) (upd H p o) := fun b u e => by
  by_cases q : b = p
  · subst q; rw [upd_same] at e ⊢; exact e
  · rw [upd_ne q] at e ⊢; exact h b u e
theorem Sub.none {S H : Hp} (h : Sub S H) {p : Addr} (n : H p = none) : S p = none := by
  cases e : S p with
  | none => rfl
  | some o => rw [h p o e] at n; cases n
/-- a new thing is laid and stays -/
theorem Grow.laid {H S : Hp} (h : Sub S H) {p : Addr} (n : H p = none) (o : HO) : Grow H S (upd H p o) (upd S p o) :=
  ⟨sub_upd n, sub_upd (h.none n), sub_upd2 h, fun b e q => by
    by_cases z : b = p
    · subst z; exact n
    · rw [upd_ne z] at q; exact absurd e q⟩

/-! ### readings over data -/
def post {α : Type} (r : R α) (P : α → Prop) (E : Nat → Prop) : Prop := match r with
  | .ok a => P a
  | .ex c => E c
  | .bad => False
theorem post_bind {α β : Type} {r : R α} {f : α → R β} {P : β → Prop} {E : Nat → Prop} : post (r.bind f) P E ↔ post r (fun a => post (f a) P E) E := by
  cases r <;> exact Iff.rfl
theorem post_mono {α : Type} {r : R α} {P P' : α → Prop} {E E' : Nat → Prop} (h : post r P E) (hp : ∀ a, P a → P' a) (he : ∀ c, E c → E' c) : post r P' E' := by
  cases r with
  | ok a => exact hp a h
  | ex c => exact he c h
  | bad => exact h
theorem post_monoR {α : Type} {r : R α} {P P' : α → Prop} {E E' : Nat → Prop} (h : post r P E) (hp : ∀ a, r = .ok a → P a → P' a) (he : ∀ c, E c → E' c) : post r P' E' := by
  cases r with
  | ok a => exact hp a rfl h
  | ex c => exact he c h
  | bad => exact h

/-- the slots' values -/
def ShR (K : PySem.W.Frag) (S : Hp) (σ : St) (ρ : Env) : Prop := ∀ (i : Nat) (s : Sl) (d : PyData), ρ[i]? = some s → s.val = some d → ∃ v, σ[i]? = some (some v) ∧ Rp K S d v
theorem ShR.sub {K : PySem.W.Frag} {S H : Hp} {σ : St} {ρ : Env} (h : ShR K S σ ρ) (s : Sub S H) : ShR K H σ ρ := fun i sl d e1 e2 => by
  obtain ⟨v, q1, q2⟩ := h i sl d e1 e2
  exact ⟨v, q1, Rp.sub s d v q2⟩

structure Wh where
  K : PySem.W.Frag
  cl : Nat → Value
  W : WX
def Wh.E (w : Wh) (σ : St) (H : Hp) : Nat → Prop := fun c => ∀ H', Sub H H' → w.W (w.cl c) none σ H'
theorem Wh.E.up {w : Wh} {σ : St} {H H1 : Hp} {c : Nat} (h : w.E σ H c) (s : Sub H H1) : w.E σ H1 c := fun H' s' => h H' (s.trans s')
/-- an expression's reading: what f gives of the slots' data -/
def tD (w : Wh) (f : Env → R PyData) : TE := fun σ H Q => ∃ S ρ, Sub S H ∧ ShR w.K S σ ρ ∧
  post (f ρ) (fun d => ∀ v H' S', Grow H S H' S' → Rp w.K S' d v → Q v H') (w.E σ H)
def tDT (w : Wh) (f : Env → R Bool) : TT := fun σ H Q => ∃ S ρ, Sub S H ∧ ShR w.K S σ ρ ∧
  post (f ρ) (fun b => ∀ H' S', Grow H S H' S' → Q b H') (w.E σ H)
def tDA (w : Wh) (f : Env → R PyData) : TA := fun σ H Q => ∃ S ρ, Sub S H ∧ ShR w.K S σ ρ ∧
  post (f ρ) (fun d => match d with
    | .tuple ds => ∀ vs H' S', Grow H S H' S' → RpA w.K S' ds vs → Q vs H'
    | _ => False) (w.E σ H)
def tDO (w : Wh) (f : Env → R PyData) : TO := fun σ H Q => ∃ S ρ, Sub S H ∧ ShR w.K S σ ρ ∧
  post ((f ρ).bind partD) (fun o => ∀ H' S', Grow H S H' S' → Q o H') (w.E σ H)
theorem pe_imp {X : Cx} {e : Expr} {t t' : TE} (h : PE X e t) (hi : ∀ σ H Q, t' σ H Q → t σ H Q) : PE X e t' := ⟨fun pins s σ H Q I q => h.run pins s σ H Q I (hi σ H Q q)⟩
theorem pt_imp {X : Cx} {e : Expr} {t t' : TT} (h : PT X e t) (hi : ∀ σ H Q, t' σ H Q → t σ H Q) : PT X e t' := ⟨fun pins s σ H Q I q => h.run pins s σ H Q I (hi σ H Q q)⟩
theorem pa_imp {X : Cx} {e : List Expr} {t t' : TA} (h : PA X e t) (hi : ∀ σ H Q, t' σ H Q → t σ H Q) : PA X e t' := ⟨fun pos pins s σ H Q I q => h.run pos pins s σ H Q I (hi σ H Q q)⟩
theorem ps_imp {X : Cx} {e : Stmt} {t t' : TS} (h : PS X e t) (hi : ∀ D σ H, t' D σ H → t D σ H) : PS X e t' := ⟨fun pins s σ H D I q => h.run pins s σ H D I (hi D σ H q)⟩
theorem pss_imp {X : Cx} {e : List Stmt} {t t' : TS} (h : PSs X e t) (hi : ∀ D σ H, t' D σ H → t D σ H) : PSs X e t' := ⟨fun pins s σ H D I q => h.run pins s σ H D I (hi D σ H q)⟩
section
variable {w : Wh} {f g : Env → R PyData} {σ : St} {H : Hp}
/-- one value, and on -/
theorem td_one {S : Hp} {ρ : Env} {r : V → Hp → Prop} (hS : Sub S H) (hr : ShR w.K S σ ρ) {P : PyData → Prop}
    (h : post (f ρ) P (w.E σ H)) (hP : ∀ d v H' S', P d → Grow H S H' S' → Rp w.K S' d v → r v H') : tD w f σ H r :=
  ⟨S, ρ, hS, hr, post_mono h (fun d p v H' S' g q => hP d v H' S' p g q) fun _ e => e⟩
/-- two values, and on -/
theorem td_two {S : Hp} {ρ : Env} {r : V → V → Hp → Prop} (hS : Sub S H) (hr : ShR w.K S σ ρ) {P : PyData → PyData → Prop}
    (h : post (f ρ) (fun x => post (g ρ) (P x) (w.E σ H)) (w.E σ H))
    (hP : ∀ x y vx vy H2 S2, P x y → Grow H S H2 S2 → Rp w.K S2 x vx → Rp w.K S2 y vy → r vx vy H2) : tD w f σ H (fun vx H1 => tD w g σ H1 fun vy H2 => r vx vy H2) := by
  refine td_one hS hr h fun x vx H1 S1 p g1 q1 => ?_
  refine td_one g1.in_ (hr.sub g1.s) (post_mono p (fun _ z => z) fun c e => Wh.E.up e g1.h) fun y vy H2 S2 p2 g2 q2 => ?_
  exact hP x y vx vy H2 S2 p2 (g1.trans g2) (Rp.sub g2.s x vx q1) q2
end
end DL
namespace DL
open PySem PySem.Spec PyProof.Rows L2
/-! ### sum, max, min of a tuple of ints -/
/-- everything that stood stands -/
abbrev Stays (g g' : Heap) : Prop := ∀ (b : Addr) (o : Obj), g.get? b = some o → g'.get? b = some o
section
variable {P0 : Program} {w0 : World} {Ar : Around} {Er : Value → Shared → Prop} {z : Shared} {tp : Addr} {Qr : Value → Shared → Prop}
/-- the heap with a tuple's iterator -/
abbrev withIt (z : Shared) (tp : Addr) : Shared := { z with heap := z.heap.push { cls := .type "tuple_iterator", data := .fields #[.ref tp, .int 0 0] } }
theorem iter_tupA {vs : Array Value} (ht : z.heap.IsTuple tp vs)
    (k : (withIt z tp).heap.IsTupleIter z.heap.objs.size tp 0 ∧ (withIt z tp).heap.IsTuple tp vs → (∀ b ∈ [z.heap.objs.size, tp], b < (withIt z tp).heap.objs.size) → tp ≠ z.heap.objs.size → Qr (.ref z.heap.objs.size) (withIt z tp)) :
    wpAny (model P0 w0) Ar (pyIter (.ref tp)) Qr Er z := by
  have below : tp < z.heap.objs.size := by
    obtain ⟨o, eo, _⟩ := ht
    exact Heap.lt_size eo
  have one : (withIt z tp).heap.objs.size = z.heap.objs.size + 1 := Heap.size_push ..
  refine wpAny_pyIter_tuple ht (k ⟨⟨_, Heap.get?_push_size _ rfl, rfl, rfl⟩, ht.push _⟩ (fun b mb => ?_) (Nat.ne_of_lt below))
  rw [one]
  rcases List.mem_cons.mp mb with e | mb
  · subst e; exact Nat.lt_succ_self _
  · have e : b = tp := by simpa using mb
    subst e; exact Nat.lt_succ_of_lt below
theorem stays_it {g' : Heap} (kk : ∀ b o, b ∉ [z.heap.objs.size] → (withIt z tp).heap.get? b = some o → g'.get? b = some o) : Stays z.heap g' := fun b o eb =>
  kk b o (fun mb => by
    have e1 : b = z.heap.objs.size := by simpa using mb
    have lt := Heap.lt_size eb
    rw [e1] at lt
    exact Nat.lt_irrefl _ lt) (Heap.get?_push_of_some _ eb)
/-- the numbers of a tuple of ints -/
theorem tup_nums {vs : List Value} {ks : List Int} (hi : IntsAre vs ks) : ∃ ps : Array (Int × Tok), vs.toArray = intItems ps ∧ ps.toList.map (·.1) = ks := by
  obtain ⟨ps, e⟩ := hi.allInts.items
  refine ⟨ps, e, ?_⟩
  have q : numsOf (vs.toArray).toList = ks := hi.numsOf
  rw [e, nums_intItems] at q
  exact q
theorem sum_tup {vs : List Value} {ks : List Int} (hd : Ar.handled = none) (ht : z.heap.IsTuple tp vs.toArray) (hi : IntsAre vs ks)
    (k : ∀ g' n t, Stays z.heap g' → Qr (.int ks.sum t) { z with heap := g', toks := n }) : wpAny (model P0 w0) Ar (call (.builtin "sum") [.ref tp]) Qr Er z := by
  obtain ⟨ps, e, rfl⟩ := tup_nums hi
  rw [e] at ht
  refine call_sum_walkG (iter_tupA ht fun st fp ne => ⟨_, _, _, _, _, _, numAt ps, rfl, Walks.tuple (A := Ar.in1) hd _ tp ne (intItems ps), st, fp, fun _ _ => intItems_at, fun g' n t kk => ?_⟩)
  have r := k g' n t (stays_it kk)
  have e2 : preSum (numAt ps) ps.size = (ps.toList.map (·.1)).sum := by
    rw [preSum_eq]
    congr 1
    exact List.take_of_length_le (by simp)
  rw [← e2] at r
  simpa [intItems] using r
theorem best_mem {ps : Array (Int × Tok)} {j : Nat} (h : j < ps.size) : numAt ps j ∈ ps.toList.map (·.1) := by
  rw [numAt_eq]
  exact PySem.getD_mem (by simpa using h)
theorem of_best {ps : Array (Int × Tok)} {a : Int} (h : a ∈ ps.toList.map (·.1)) : ∃ j, j < ps.size ∧ numAt ps j = a := by
  obtain ⟨j, lj, ej⟩ := mem_getD h
  exact ⟨j, by simpa using lj, by rw [numAt_eq]; exact ej⟩
theorem max_tup {vs : List Value} {ks : List Int} (hd : Ar.handled = none) (ht : z.heap.IsTuple tp vs.toArray) (hi : IntsAre vs ks) (pos : 0 < ks.length)
    (k : ∀ g' n m t, Stays z.heap g' → m ∈ ks → (∀ a ∈ ks, a ≤ m) → Qr (.int m t) { z with heap := g', toks := n }) : wpAny (model P0 w0) Ar (call (.builtin "max") [.ref tp]) Qr Er z := by
  obtain ⟨ps, e, rfl⟩ := tup_nums hi
  rw [e] at ht
  have some_ : 0 < ps.size := by simpa using pos
  refine call_max_walk (iter_tupA ht fun st fp ne => ⟨_, _, _, _, _, _, _, rfl, Walks.tuple (A := Ar.in1) hd _ tp ne (intItems ps), st, fp, by simpa [intItems] using some_, CmpOf.ints_gt (numAt ps) (fun _ _ => intItems_at), fun v g' n hv kk => ?_⟩)
  obtain ⟨b1, b2⟩ := argBest_gt (numAt ps) (ps.size - 1)
  obtain ⟨t, rfl⟩ := intItems_at (by simpa [intItems] using hv)
  refine k g' n _ t (stays_it kk) (best_mem (Nat.lt_of_le_of_lt b1 (by omega))) fun a ha => ?_
  obtain ⟨j, lj, rfl⟩ := of_best ha
  exact b2 j (by omega)
theorem min_tup {vs : List Value} {ks : List Int} (hd : Ar.handled = none) (ht : z.heap.IsTuple tp vs.toArray) (hi : IntsAre vs ks) (pos : 0 < ks.length)
    (k : ∀ g' n m t, Stays z.heap g' → m ∈ ks → (∀ a ∈ ks, m ≤ a) → Qr (.int m t) { z with heap := g', toks := n }) : wpAny (model P0 w0) Ar (call (.builtin "min") [.ref tp]) Qr Er z := by
  obtain ⟨ps, e, rfl⟩ := tup_nums hi
  rw [e] at ht
  have some_ : 0 < ps.size := by simpa using pos
  refine call_min_walk (iter_tupA ht fun st fp ne => ⟨_, _, _, _, _, _, _, rfl, Walks.tuple (A := Ar.in1) hd _ tp ne (intItems ps), st, fp, by simpa [intItems] using some_, CmpOf.ints_lt (numAt ps) (fun _ _ => intItems_at), fun v g' n hv kk => ?_⟩)
  obtain ⟨b1, b2⟩ := argBest_lt (numAt ps) (ps.size - 1)
  obtain ⟨t, rfl⟩ := intItems_at (by simpa [intItems] using hv)
  refine k g' n _ t (stays_it kk) (best_mem (Nat.lt_of_le_of_lt b1 (by omega))) fun a ha => ?_
  obtain ⟨j, lj, rfl⟩ := of_best ha
  exact b2 j (by omega)
end
section
variable {X : Cx}
theorem one_ref {a : Addr} {us : List Value} (r : Vals [V.ref a] us) : us = [Value.ref a] := by
  cases r with
  | cons r t =>
    cases t
    cases r
    rfl
theorem cr_sumT (hc : X.calm = true) : CallR X (.builtin "sum") (fun vs H Q => ∃ (a : Addr) (ks : List Int), vs = [V.ref a] ∧ SqT X.K H a (ks.map V.int) ∧ Q (.int ks.sum) H) := by
  intro pins s σ H vs us Q I r ⟨a, ks, ev, hs, q⟩
  subst ev
  obtain ⟨its, rv, ht, _⟩ := I.tuple hs
  rw [one_ref r]
  exact sum_tup (I.ok.hd hc) (show s.heap.IsTuple a its.toArray from ht) rv.ints fun g' n t st => ⟨.int _, H, I.kept st, ⟨_, rfl⟩, q⟩
theorem cr_maxT (hc : X.calm = true) : CallR X (.builtin "max") (fun vs H Q => ∃ (a : Addr) (ks : List Int), vs = [V.ref a] ∧ SqT X.K H a (ks.map V.int) ∧ 0 < ks.length ∧ ∀ m, m ∈ ks → (∀ y, y ∈ ks → y ≤ m) → Q (.int m) H) := by
  intro pins s σ H vs us Q I r ⟨a, ks, ev, hs, pos, q⟩
  subst ev
  obtain ⟨its, rv, ht, _⟩ := I.tuple hs
  rw [one_ref r]
  exact max_tup (I.ok.hd hc) (show s.heap.IsTuple a its.toArray from ht) rv.ints pos fun g' n m t st h1 h2 => ⟨.int _, H, I.kept st, ⟨_, rfl⟩, q m h1 h2⟩
theorem cr_minT (hc : X.calm = true) : CallR X (.builtin "min") (fun vs H Q => ∃ (a : Addr) (ks : List Int), vs = [V.ref a] ∧ SqT X.K H a (ks.map V.int) ∧ 0 < ks.length ∧ ∀ m, m ∈ ks → (∀ y, y ∈ ks → m ≤ y) → Q (.int m) H) := by
  intro pins s σ H vs us Q I r ⟨a, ks, ev, hs, pos, q⟩
  subst ev
  obtain ⟨its, rv, ht, _⟩ := I.tuple hs
  rw [one_ref r]
  exact min_tup (I.ok.hd hc) (show s.heap.IsTuple a its.toArray from ht) rv.ints pos fun g' n m t st h1 h2 => ⟨.int _, H, I.kept st, ⟨_, rfl⟩, q m h1 h2⟩
end
end DL
namespace DL
open PySem PySem.Spec PyProof.Rows L2

theorem bigLine : big ≤ sizeLine := by rw [sizeLine_eq]; decide
theorem bigLt : big < sizeLine := by rw [sizeLine_eq]; decide

/-! ### operators over data -/
def rB (K : PySem.W.Frag) (o : Bop) : R2 := fun x y H Q => ∃ S dx dy, Sub S H ∧ Rp K S dx x ∧ Rp K S dy y ∧ post (binD o dx dy) (fun d => ∀ v H' S', Grow H S H' S' → Rp K S' d v → Q v H') (fun _ => False)
def rC (K : PySem.W.Frag) (o : Cop) : R2 := fun x y H Q => ∃ S dx dy, Sub S H ∧ Rp K S dx x ∧ Rp K S dy y ∧ post (cmpD o dx dy) (fun b => Q (.bl b) H) (fun _ => False)
def Bop.op : Bop → Operator
  | .add => .Add
  | .sub => .Sub
  | .mul => .Mult
  | .fdiv => .FloorDiv
  | .mod => .Mod
  | .pow => .Pow
  | .shl => .LShift
  | .shr => .RShift
  | .band => .BitAnd
  | .bxor => .BitXor
def Cop.op : Cop → CmpOp
  | .lt => .Lt
  | .le => .LtE
  | .gt => .Gt
  | .ge => .GtE
  | .eq => .Eq
  | .ne => .NotEq
  | .is_ => .Is
  | .isnot => .IsNot
  | .in_ => .In
  | .notin => .NotIn

section
variable {X : Cx}
theorem rp_int {K : PySem.W.Frag} {S : Hp} {i : Int} {v : V} (h : Rp K S (.int i) v) : v = .int i := by simpa only [Rp] using h
theorem rp_bool {K : PySem.W.Frag} {S : Hp} {i : Bool} {v : V} (h : Rp K S (.bool i) v) : v = .bl i := by simpa only [Rp] using h
theorem rp_str {K : PySem.W.Frag} {S : Hp} {i : Str} {v : V} (h : Rp K S (.str i) v) : v = .str i := by simpa only [Rp] using h
theorem rp_none {K : PySem.W.Frag} {S : Hp} {v : V} (h : Rp K S .none v) : v = .non := by simpa only [Rp] using h
theorem rpI {K : PySem.W.Frag} {S : Hp} (i : Int) : Rp K S (.int i) (.int i) := by simp only [Rp]
theorem rpB {K : PySem.W.Frag} {S : Hp} (i : Bool) : Rp K S (.bool i) (.bl i) := by simp only [Rp]
theorem rpS {K : PySem.W.Frag} {S : Hp} (i : Str) : Rp K S (.str i) (.str i) := by simp only [Rp]
theorem rpN {K : PySem.W.Frag} {S : Hp} : Rp K S .none .non := by simp only [Rp]
theorem post_if {α : Type} {c : Prop} [Decidable c] {a : α} {P : α → Prop} {E : Nat → Prop} (h : post (if c then R.ok a else R.bad) P E) : c ∧ P a := by
  by_cases q : c
  · rw [if_pos q] at h; exact ⟨q, h⟩
  · rw [if_neg q] at h; exact h.elim

theorem two64 : (2 : Int) ^ 64 = 18446744073709551616 := by decide
theorem two64n : 2 ^ 64 = 18446744073709551616 := by decide
theorem twoPow (n : Nat) : ((2 ^ n : Nat) : Int) = 2 ^ n := by
  rw [Int.natCast_pow]; rfl
theorem smallI_ok {i : Int} (h : smallI i = true) : -(2 ^ 64) < i ∧ i < 2 ^ 64 := by
  have h := Nat.blt_eq.mp h
  rw [two64]
  omega
theorem mulOk_ok {i j : Int} (h : mulOk i j = true) : CMul i j ∨ CMulW i j := by
  unfold mulOk at h
  simp only [Bool.or_eq_true, decide_eq_true_eq] at h
  rcases h with (h | h) | h
  · exact .inl (.inl (smallI_ok h))
  · exact .inl (.inr (smallI_ok h))
  · exact .inr h

theorem opr_add : OpR X (binaryOp .Add) (rB X.K .add) := by
  intro pins s σ H x y v u Q I rx ry ⟨S, dx, dy, hS, hx, hy, h⟩
  cases dx <;> cases dy <;> simp only [binD] at h <;> try exact h.elim
  · rename_i i j
    cases rp_int hx; cases rp_int hy
    exact op_add pins s σ H _ _ v u Q I rx ry ⟨i, j, rfl, rfl, h _ H S (Grow.refl hS) (rpI _)⟩
  · rename_i i j
    obtain ⟨hz, h⟩ := post_if h
    cases rp_str hx; cases rp_str hy
    exact op_add_str pins s σ H _ _ v u Q I rx ry ⟨i, j, rfl, rfl, Nat.le_trans hz bigLine, h _ H S (Grow.refl hS) (rpS _)⟩
  · rename_i xs ys
    obtain ⟨hz, h⟩ := post_if h
    simp only [Rp] at hx hy
    obtain ⟨a, vs, rfl, ha, ra⟩ := hx
    obtain ⟨b, us, rfl, hb, rb⟩ := hy
    have hl : vs.length + us.length ≤ sizeLine := by rw [ra.length, rb.length]; exact Nat.le_trans hz bigLine
    exact op_cat pins s σ H _ _ v u Q I rx ry ⟨a, b, vs, us, rfl, rfl, hS _ _ ha, hS _ _ hb, hl, fun p hp =>
      h _ _ _ (Grow.laid hS hp _) (Rp.lst upd_same ((RpA.append ra rb).sub (sub_upd (hS.none hp))))⟩
  · rename_i xs ys
    obtain ⟨hz, h⟩ := post_if h
    simp only [Rp] at hx hy
    obtain ⟨a, vs, rfl, ha, ra⟩ := hx
    obtain ⟨b, us, rfl, hb, rb⟩ := hy
    have hl : vs.length + us.length ≤ sizeLine := by rw [ra.length, rb.length]; exact Nat.le_trans hz bigLine
    refine op_catA pins s σ H _ _ v u Q I rx ry ⟨a, b, vs, us, rfl, rfl, (SqT.sub hS ha), (SqT.sub hS hb), hl, fun e => ?_, fun e e2 => ?_, fun e e2 p hp => ?_⟩
    · subst e
      have ex : xs = [] := List.length_eq_zero_iff.mp ra.length.symm
      subst ex
      refine h _ H S (Grow.refl hS) ?_
      simp only [Rp]
      exact ⟨b, us, rfl, hb, rb⟩
    · subst e2
      have ex : ys = [] := List.length_eq_zero_iff.mp rb.length.symm
      subst ex
      refine h _ H S (Grow.refl hS) ?_
      rw [List.append_nil]
      simp only [Rp]
      exact ⟨a, vs, rfl, ha, ra⟩
    · exact h _ _ _ (Grow.laid hS hp _) (Rp.tup upd_same ((RpA.append ra rb).sub (sub_upd (hS.none hp))))
theorem opr_sub : OpR X (binaryOp .Sub) (rB X.K .sub) := by
  intro pins s σ H x y v u Q I rx ry ⟨S, dx, dy, hS, hx, hy, h⟩
  cases dx <;> cases dy <;> simp only [binD] at h <;> try exact h.elim
  rename_i i j
  cases rp_int hx; cases rp_int hy
  exact op_sub pins s σ H _ _ v u Q I rx ry ⟨i, j, rfl, rfl, h _ H S (Grow.refl hS) (rpI _)⟩

theorem tuple_mul1 (l : Addr) (items : Array Value) (n : Nat) (dd : Option Addr) (sl : Array (Option Value)) (u : Tok) (c1 : (items.isEmpty || ((1 : Int) == 1)) = true) :
    Meets (Builtin.«tuple.__mul__» ⟨[.ref l, .int 1 u], []⟩) (fun _ R s => s.heap.get? l = some { cls := .type "tuple", dict := dd, data := .seq items n, slots := sl } ∧
      R (.ok (.ret (Value.ref l))) s) :=
  .of_wp fun prog w A R s h => by
    obtain ⟨hp, g, d, tk, os⟩ := s
    obtain ⟨hl, h⟩ := h
    have f1 := AutoSeq1.idx_int
    wp_walk using wpAny_loadPart' hl
    exact ⟨_, rfl, h⟩
/-- xs * 1 of a tuple is the tuple -/
theorem op_rep1 : OpR X (binaryOp .Mult) (fun x y H Q => ∃ l xs, x = .ref l ∧ y = .int 1 ∧ SqT X.K H l xs ∧ xs ≠ [] ∧ Q (.ref l) H) := by
  intro pins s σ H x y v u Q I rx ry ⟨l, xs, ex, ey, hT, hne, q⟩
  subst ex ey
  cases rx
  obtain ⟨t, rfl⟩ := ry
  obtain ⟨its, r, ⟨⟨cls, dd, data, sl⟩, ho, hc, n, hd⟩, hs⟩ := I.tuple hT
  simp only at hc hd
  subst hc hd
  refine wpAny_binaryOp_repeat_ref (T := "tuple") (U := "int") (by decide) ⟨_, ho, rfl⟩ (fun s' => typeIs_int s' 1 t) noFill_tuple_mul F.fills_int_mul F.slot_int_rmul repeat_tuple F.slot_int_index.lookup
    (call_meets F.slot_int_rmul (typeIs_int s 1 t) F.entry_int_rmul (F.args_int_rmul_2 _ _) (int_rmul_tuple 1 t l its.toArray n dd sl)
      ⟨ho, rfl, ⟨_, ho, rfl⟩, call_meets F.slot_tuple_mul ⟨_, ho, rfl⟩ F.entry_tuple_mul (F.args_tuple_mul_2 _ _) (tuple_mul1 l its.toArray n dd sl t (by simp)) ⟨ho, ?_⟩⟩)
  exact ⟨.ref l, H, I, rfl, q⟩
theorem opr_mul : OpR X (binaryOp .Mult) (rB X.K .mul) := by
  intro pins s σ H x y v u Q I rx ry ⟨S, dx, dy, hS, hx, hy, h⟩
  cases dx <;> cases dy <;> simp only [binD] at h <;> try exact h.elim
  · rename_i i j
    obtain ⟨hz, h⟩ := post_if h
    cases rp_int hx; cases rp_int hy
    rcases mulOk_ok hz with q | q
    · exact op_mul pins s σ H _ _ v u Q I rx ry ⟨i, j, rfl, rfl, q, h _ H S (Grow.refl hS) (rpI _)⟩
    · exact op_mulW pins s σ H _ _ v u Q I rx ry ⟨i, j, rfl, rfl, q, h _ H S (Grow.refl hS) (rpI _)⟩
  · rename_i xs k
    obtain ⟨⟨z1, z2, z3⟩, h⟩ := post_if h
    simp only [Rp] at hx
    obtain ⟨a, vs, rfl, ha, ra⟩ := hx
    cases rp_int hy
    have hl : vs.length * k.toNat ≤ sizeLine := by rw [ra.length]; exact Nat.le_trans z3 bigLine
    exact op_rep pins s σ H _ _ v u Q I rx ry ⟨a, k, vs, rfl, rfl, hS _ _ ha, by omega, by omega, hl, fun p hp =>
      h _ _ _ (Grow.laid hS hp _) (Rp.lst upd_same ((RpA.rep ra k.toNat).sub (sub_upd (hS.none hp))))⟩
  · rename_i xs k
    obtain ⟨⟨z1, z2, z3, z4⟩, h⟩ := post_if h
    simp only [Rp] at hx
    obtain ⟨a, vs, rfl, ha, ra⟩ := hx
    cases rp_int hy
    have hne : vs ≠ [] := fun e => by
      subst e
      have ex : xs = [] := List.length_eq_zero_iff.mp ra.length.symm
      subst ex
      cases z4
    by_cases k1 : k = 1
    · subst k1
      refine op_rep1 pins s σ H _ _ v u Q I rx ry ⟨a, vs, rfl, rfl, (SqT.sub hS ha), hne, h _ H S (Grow.refl hS) ?_⟩
      have e : repL xs (1 : Int).toNat = xs := by show ([xs] : List (List PyData)).flatten = xs; simp
      rw [e]
      simp only [Rp]
      exact ⟨a, vs, rfl, ha, ra⟩
    · exact op_repT pins s σ H _ _ v u Q I rx ry ⟨a, k, vs, rfl, rfl, (SqT.sub hS ha), hne, by omega, z1, by rw [ra.length]; exact z3, fun p hp =>
        h _ _ _ (Grow.laid hS hp _) (Rp.tup upd_same ((RpA.rep ra k.toNat).sub (sub_upd (hS.none hp))))⟩
theorem opr_fdiv : OpR X (binaryOp .FloorDiv) (rB X.K .fdiv) := by
  intro pins s σ H x y v u Q I rx ry ⟨S, dx, dy, hS, hx, hy, h⟩
  cases dx <;> cases dy <;> simp only [binD] at h <;> try exact h.elim
  rename_i i j
  obtain ⟨⟨z1, z2⟩, h⟩ := post_if h
  cases rp_int hx; cases rp_int hy
  exact op_fdivW pins s σ H _ _ v u Q I rx ry ⟨i, j, rfl, rfl, ⟨z1, z2⟩, h _ H S (Grow.refl hS) (rpI _)⟩
theorem opr_mod : OpR X (binaryOp .Mod) (rB X.K .mod) := by
  intro pins s σ H x y v u Q I rx ry ⟨S, dx, dy, hS, hx, hy, h⟩
  cases dx <;> cases dy <;> simp only [binD] at h <;> try exact h.elim
  rename_i i j
  obtain ⟨z1, h⟩ := post_if h
  cases rp_int hx; cases rp_int hy
  exact op_mod pins s σ H _ _ v u Q I rx ry ⟨i, j, rfl, rfl, z1, h _ H S (Grow.refl hS) (rpI _)⟩
theorem opr_pow : OpR X (binaryOp .Pow) (rB X.K .pow) := by
  intro pins s σ H x y v u Q I rx ry ⟨S, dx, dy, hS, hx, hy, h⟩
  cases dx <;> cases dy <;> simp only [binD] at h <;> try exact h.elim
  rename_i i j
  obtain ⟨z1, h⟩ := post_if h
  cases rp_int hx; cases rp_int hy
  exact op_pow pins s σ H _ _ v u Q I rx ry ⟨i, j, rfl, rfl, ⟨z1.1, z1.2.1, by rw [two64n]; exact z1.2.2⟩, h _ H S (Grow.refl hS) (rpI _)⟩
theorem opr_shl : OpR X (binaryOp .LShift) (rB X.K .shl) := by
  intro pins s σ H x y v u Q I rx ry ⟨S, dx, dy, hS, hx, hy, h⟩
  cases dx <;> cases dy <;> simp only [binD] at h <;> try exact h.elim
  rename_i i j
  obtain ⟨z1, h⟩ := post_if h
  cases rp_int hx; cases rp_int hy
  rw [twoPow] at h
  exact op_shl pins s σ H _ _ v u Q I rx ry ⟨i, j, rfl, rfl, ⟨z1.1, z1.2.1, by rw [two64n]; exact z1.2.2⟩, h _ H S (Grow.refl hS) (rpI _)⟩
theorem opr_shr : OpR X (binaryOp .RShift) (rB X.K .shr) := by
  intro pins s σ H x y v u Q I rx ry ⟨S, dx, dy, hS, hx, hy, h⟩
  cases dx <;> cases dy <;> simp only [binD] at h <;> try exact h.elim
  rename_i i j
  obtain ⟨z1, h⟩ := post_if h
  cases rp_int hx; cases rp_int hy
  rw [twoPow] at h
  exact op_shr pins s σ H _ _ v u Q I rx ry ⟨i, j, rfl, rfl, z1, h _ H S (Grow.refl hS) (rpI _)⟩
theorem opr_band : OpR X (binaryOp .BitAnd) (rB X.K .band) := by
  intro pins s σ H x y v u Q I rx ry ⟨S, dx, dy, hS, hx, hy, h⟩
  cases dx <;> cases dy <;> simp only [binD] at h <;> try exact h.elim
  rename_i i j
  cases rp_int hx; cases rp_int hy
  exact op_and pins s σ H _ _ v u Q I rx ry ⟨i, j, rfl, rfl, h _ H S (Grow.refl hS) (rpI _)⟩
theorem opr_bxor : OpR X (binaryOp .BitXor) (rB X.K .bxor) := by
  intro pins s σ H x y v u Q I rx ry ⟨S, dx, dy, hS, hx, hy, h⟩
  cases dx <;> cases dy <;> simp only [binD] at h <;> try exact h.elim
  rename_i i j
  cases rp_int hx; cases rp_int hy
  exact op_xor pins s σ H _ _ v u Q I rx ry ⟨i, j, rfl, rfl, h _ H S (Grow.refl hS) (rpI _)⟩

/-! ### comparisons -/
theorem cpr_lt : OpR X (compareOp .Lt) (rC X.K .lt) := by
  intro pins s σ H x y v u Q I rx ry ⟨S, dx, dy, hS, hx, hy, h⟩
  cases dx <;> cases dy <;> simp only [cmpD] at h <;> try exact h.elim
  rename_i i j
  cases rp_int hx; cases rp_int hy
  exact op_lt pins s σ H _ _ v u Q I rx ry ⟨i, j, rfl, rfl, h⟩
theorem cpr_le : OpR X (compareOp .LtE) (rC X.K .le) := by
  intro pins s σ H x y v u Q I rx ry ⟨S, dx, dy, hS, hx, hy, h⟩
  cases dx <;> cases dy <;> simp only [cmpD] at h <;> try exact h.elim
  rename_i i j
  cases rp_int hx; cases rp_int hy
  exact op_le pins s σ H _ _ v u Q I rx ry ⟨i, j, rfl, rfl, h⟩
theorem cpr_gt : OpR X (compareOp .Gt) (rC X.K .gt) := by
  intro pins s σ H x y v u Q I rx ry ⟨S, dx, dy, hS, hx, hy, h⟩
  cases dx <;> cases dy <;> simp only [cmpD] at h <;> try exact h.elim
  rename_i i j
  cases rp_int hx; cases rp_int hy
  exact op_gt pins s σ H _ _ v u Q I rx ry ⟨i, j, rfl, rfl, h⟩
theorem cpr_ge : OpR X (compareOp .GtE) (rC X.K .ge) := by
  intro pins s σ H x y v u Q I rx ry ⟨S, dx, dy, hS, hx, hy, h⟩
  cases dx <;> cases dy <;> simp only [cmpD] at h <;> try exact h.elim
  rename_i i j
  cases rp_int hx; cases rp_int hy
  exact op_ge pins s σ H _ _ v u Q I rx ry ⟨i, j, rfl, rfl, h⟩
theorem canLay_of {d : PyData} (h : SeqAt.shaped d = true) : d.canLay0 = true := SeqAt.canLay_of_shaped h
theorem eqv_int (i j : Int) : PyData.eqv (.int i) (.int j) = (i == j) := by simp only [PyData.eqv]
theorem eqv_bool (i j : Bool) : PyData.eqv (.bool i) (.bool j) = (i == j) := by simp only [PyData.eqv]
theorem eqv_none : PyData.eqv .none .none = true := by simp only [PyData.eqv]
theorem shaped_int (i : Int) : SeqAt.shaped (.int i) = true := by simp [SeqAt.shaped, PyData.canLay0, PyData.depth]
theorem shaped_bool (i : Bool) : SeqAt.shaped (.bool i) = true := by simp [SeqAt.shaped, PyData.canLay0, PyData.depth]
theorem shaped_none : SeqAt.shaped .none = true := by simp [SeqAt.shaped, PyData.canLay0, PyData.depth]
theorem eqD_ok {a b : PyData} {P : Bool → Prop} {E : Nat → Prop} (hE : ∀ c, ¬ E c) (h : post (eqD a b) P E) : SeqAt.shaped a = true ∧ SeqAt.shaped b = true ∧ P (PyData.eqv a b) := by
  unfold eqD at h
  split at h
  · exact ⟨shaped_int _, shaped_int _, by rw [eqv_int]; exact h⟩
  · exact ⟨shaped_bool _, shaped_bool _, by rw [eqv_bool]; exact h⟩
  · exact ⟨shaped_none, shaped_none, by rw [eqv_none]; exact h⟩
  · obtain ⟨hc, h⟩ := post_if h
    rw [Bool.and_eq_true] at hc
    exact ⟨hc.1, hc.2, h⟩
theorem cpr_eq (hu : X.A.units + 64 < cLine) : OpR X (compareOp .Eq) (rC X.K .eq) := by
  intro pins s σ H x y v u Q I rx ry ⟨S, dx, dy, hS, hx, hy, h⟩
  simp only [cmpD] at h
  obtain ⟨s1, s2, q⟩ := eqD_ok (fun _ z => z) h
  exact op_eqD hu pins s σ H _ _ v u Q I rx ry ⟨dx, dy, Rp.dp dx x (canLay_of s1) (Rp.sub hS dx x hx), Rp.dp dy y (canLay_of s2) (Rp.sub hS dy y hy), s1, s2, q⟩
theorem cpr_ne (hu : X.A.units + 64 < cLine) : OpR X (compareOp .NotEq) (rC X.K .ne) := by
  intro pins s σ H x y v u Q I rx ry ⟨S, dx, dy, hS, hx, hy, h⟩
  simp only [cmpD, post_bind] at h
  obtain ⟨s1, s2, q⟩ := eqD_ok (fun _ z => z) h
  exact op_neD hu pins s σ H _ _ v u Q I rx ry ⟨dx, dy, Rp.dp dx x (canLay_of s1) (Rp.sub hS dx x hx), Rp.dp dy y (canLay_of s2) (Rp.sub hS dy y hy), s1, s2, q⟩
theorem isN_of {K : PySem.W.Frag} {S : Hp} {d : PyData} {x : V} (h : Rp K S d x) : decide (x = .non) = isNone d := by
  cases d <;> simp only [Rp] at h
  · subst h; rfl
  · subst h; rfl
  · subst h; rfl
  · subst h; rfl
  · obtain ⟨a, xs, rfl, _⟩ := h; rfl
  · obtain ⟨a, xs, rfl, _⟩ := h; rfl
  · obtain ⟨a, ns, _, rfl, _⟩ := h; rfl
theorem cpr_is : OpR X (compareOp .Is) (rC X.K .is_) := by
  intro pins s σ H x y v u Q I rx ry ⟨S, dx, dy, hS, hx, hy, h⟩
  cases dy <;> simp only [cmpD] at h <;> try exact h.elim
  refine op_isN pins s σ H _ _ v u Q I rx ry ⟨rp_none hy, ?_⟩
  rw [isN_of hx]
  exact h
theorem cpr_isnot : OpR X (compareOp .IsNot) (rC X.K .isnot) := by
  intro pins s σ H x y v u Q I rx ry ⟨S, dx, dy, hS, hx, hy, h⟩
  cases dy <;> simp only [cmpD] at h <;> try exact h.elim
  refine op_notN pins s σ H _ _ v u Q I rx ry ⟨rp_none hy, ?_⟩
  rw [isN_of hx]
  exact h
theorem scal_flat {K : PySem.W.Frag} {S : Hp} {d : PyData} {x : V} (h : Rp K S d x) (f : scalar d = true) : flatV x = true := by
  cases d <;> simp only [Rp, scalar] at h f
  · subst h; rfl
  · subst h; rfl
  · subst h; rfl
  · subst h; rfl
  all_goals cases f
theorem scal_eq {K : PySem.W.Frag} {S : Hp} {d e : PyData} {x y : V} (h : Rp K S d x) (f : scalar d = true) (h' : Rp K S e y) (f' : scalar e = true) : eqV x y = PyData.eqv d e := by
  cases d <;> simp only [scalar] at f <;> try cases f
  all_goals cases e <;> simp only [scalar] at f' <;> try cases f'
  all_goals
    simp only [Rp] at h h'
    subst h h'
    simp only [PyData.eqv, eqV]
theorem all_flat {K : PySem.W.Frag} {S : Hp} : ∀ {ds : List PyData} {vs : List V}, RpA K S ds vs → ds.all scalar = true → vs.all flatV = true
  | [], vs, q, _ => by simp only [RpA] at q; subst q; rfl
  | d :: ds, vs, q, f => by
    simp only [RpA] at q
    obtain ⟨v, r, e, q1, q2⟩ := q
    subst e
    rw [List.all_cons, Bool.and_eq_true] at f ⊢
    exact ⟨scal_flat q1 f.1, all_flat q2 f.2⟩
theorem any_eq {K : PySem.W.Frag} {S : Hp} {a : PyData} {x : V} (ha : Rp K S a x) (fa : scalar a = true) : ∀ {ds : List PyData} {vs : List V}, RpA K S ds vs → ds.all scalar = true → (vs.any fun y => eqV y x) = ds.any fun y => PyData.eqv y a
  | [], vs, q, _ => by simp only [RpA] at q; subst q; rfl
  | d :: ds, vs, q, f => by
    simp only [RpA] at q
    obtain ⟨v, r, e, q1, q2⟩ := q
    subst e
    rw [List.all_cons, Bool.and_eq_true] at f
    rw [List.any_cons, List.any_cons, scal_eq q1 f.1 ha fa, any_eq ha fa q2 f.2]
theorem inD_ok {a : PyData} {xs : List PyData} {P : Bool → Prop} {E : Nat → Prop} (h : post (inD a xs) P E) : scalar a = true ∧ xs.all scalar = true ∧ P (xs.any fun y => PyData.eqv y a) := by
  unfold inD at h
  obtain ⟨hc, h⟩ := post_if h
  rw [Bool.and_eq_true] at hc
  exact ⟨hc.1, hc.2, h⟩
theorem cpr_in : OpR X (compareOp .In) (rC X.K .in_) := by
  intro pins s σ H x y v u Q I rx ry ⟨S, dx, dy, hS, hx, hy, h⟩
  cases dy <;> simp only [cmpD] at h <;> try exact h.elim
  · obtain ⟨f1, f2, q⟩ := inD_ok h
    simp only [Rp] at hy
    obtain ⟨a, vs, rfl, ha, ra⟩ := hy
    refine op_in_seq pins s σ H _ _ v u Q I rx ry ⟨a, vs, rfl, .inl (SqL.ofS (hS _ _ ha)), scal_flat hx f1, all_flat ra f2, ?_⟩
    rw [if_neg Bool.false_ne_true]
    unfold inV
    rw [any_eq hx f1 ra f2]
    exact q
  · obtain ⟨f1, f2, q⟩ := inD_ok h
    simp only [Rp] at hy
    obtain ⟨a, vs, rfl, ha, ra⟩ := hy
    refine op_in_seq pins s σ H _ _ v u Q I rx ry ⟨a, vs, rfl, .inr ((SqT.sub hS ha)), scal_flat hx f1, all_flat ra f2, ?_⟩
    rw [if_neg Bool.false_ne_true]
    unfold inV
    rw [any_eq hx f1 ra f2]
    exact q
theorem cpr_notin : OpR X (compareOp .NotIn) (rC X.K .notin) := by
  intro pins s σ H x y v u Q I rx ry ⟨S, dx, dy, hS, hx, hy, h⟩
  cases dy <;> simp only [cmpD, post_bind] at h <;> try exact h.elim
  · obtain ⟨f1, f2, q⟩ := inD_ok h
    simp only [Rp] at hy
    obtain ⟨a, vs, rfl, ha, ra⟩ := hy
    refine op_notIn_seq pins s σ H _ _ v u Q I rx ry ⟨a, vs, rfl, .inl (SqL.ofS (hS _ _ ha)), scal_flat hx f1, all_flat ra f2, ?_⟩
    rw [if_pos rfl]
    unfold inV
    rw [any_eq hx f1 ra f2]
    exact q
  · obtain ⟨f1, f2, q⟩ := inD_ok h
    simp only [Rp] at hy
    obtain ⟨a, vs, rfl, ha, ra⟩ := hy
    refine op_notIn_seq pins s σ H _ _ v u Q I rx ry ⟨a, vs, rfl, .inr ((SqT.sub hS ha)), scal_flat hx f1, all_flat ra f2, ?_⟩
    rw [if_pos rfl]
    unfold inV
    rw [any_eq hx f1 ra f2]
    exact q
end

section
variable {X : Cx}
theorem opr (o : Bop) : OpR X (binaryOp o.op) (rB X.K o) := by
  cases o
  · exact opr_add
  · exact opr_sub
  · exact opr_mul
  · exact opr_fdiv
  · exact opr_mod
  · exact opr_pow
  · exact opr_shl
  · exact opr_shr
  · exact opr_band
  · exact opr_bxor
theorem cpr (hu : X.A.units + 64 < cLine) (o : Cop) : OpR X (compareOp o.op) (rC X.K o) := by
  cases o
  · exact cpr_lt
  · exact cpr_le
  · exact cpr_gt
  · exact cpr_ge
  · exact cpr_eq hu
  · exact cpr_ne hu
  · exact cpr_is
  · exact cpr_isnot
  · exact cpr_in
  · exact cpr_notin

/-! ### subscripts, slices, built-ins -/
theorem atD_ok {K : PySem.W.Frag} {S : Hp} {ds : List PyData} {vs : List V} {i : Int} {P : PyData → Prop} {E : Nat → Prop} (hr : RpA K S ds vs) (h : post (atD ds i) P E) :
    ∃ d v, atI vs i = some v ∧ Rp K S d v ∧ P d := by
  unfold atD at h
  cases i with
  | ofNat k =>
    dsimp only at h
    cases e : ds[k]? with
    | none => rw [e] at h; exact h.elim
    | some d =>
      rw [e] at h
      obtain ⟨v, hv, hd⟩ := hr.get e
      exact ⟨d, v, atI_nat hv, hd, h⟩
  | negSucc k =>
    dsimp only at h
    by_cases c : k < ds.length
    · rw [if_pos c] at h
      cases e : ds[ds.length - (k + 1)]? with
      | none => rw [e] at h; exact h.elim
      | some d =>
        rw [e] at h
        obtain ⟨v, hv, hd⟩ := hr.get e
        refine ⟨d, v, ?_, hd, h⟩
        have hl := hr.length
        unfold atI ixN
        rw [if_neg (by omega), if_pos (by omega)]
        have e2 : (Int.negSucc k + (vs.length : Int)).toNat = ds.length - (k + 1) := by omega
        rw [e2]
        exact hv
    · rw [if_neg c] at h; exact h.elim
def rX (K : PySem.W.Frag) : R2 := fun x y H Q => ∃ S dx dy, Sub S H ∧ Rp K S dx x ∧ Rp K S dy y ∧ post (subD dx dy) (fun d => ∀ v H' S', Grow H S H' S' → Rp K S' d v → Q v H') (fun _ => False)
theorem ixr : IxR X (rX X.K) := by
  intro va sl pins s σ H x y v u Q I rx ry ⟨S, dx, dy, hS, hx, hy, h⟩ hp
  unfold subD at h
  split at h
  · rename_i xs k
    simp only [Rp] at hx
    obtain ⟨a, vs, rfl, ha, ra⟩ := hx
    cases rp_int hy
    obtain ⟨d, w, e1, e2, q⟩ := atD_ok ra h
    exact ix_tup va sl pins s σ H _ _ v u Q I rx ry ⟨a, vs, k, w, rfl, rfl, SqT.sub hS ha, e1, q _ H S (Grow.refl hS) e2⟩ hp
  · rename_i xs k
    simp only [Rp] at hx
    obtain ⟨a, vs, rfl, ha, ra⟩ := hx
    cases rp_int hy
    obtain ⟨d, w, e1, e2, q⟩ := atD_ok ra h
    exact ix_list va sl pins s σ H _ _ v u Q I rx ry ⟨a, vs, k, w, rfl, rfl, SqL.ofS (hS _ _ ha), e1, q _ H S (Grow.refl hS) e2⟩ hp
  · rename_i xs k
    simp only [Rp] at hx
    obtain ⟨a, ns, e0, rfl, ha⟩ := hx
    simp only [List.cons.injEq, Prod.mk.injEq, PyData.list.injEq, and_true, true_and] at e0
    subst e0
    cases rp_int hy
    obtain ⟨d, w, e1, e2, q⟩ := atD_ok (RpA.ofInts (K := X.K) (S := S) ns) h
    exact ix_list va sl pins s σ H _ _ v u Q I rx ry ⟨a, _, k, w, rfl, rfl, SqL.sub hS ha, e1, q _ H S (Grow.refl hS) e2⟩ hp
  · exact h.elim
def rS (K : PySem.W.Frag) : V → Option Int → Option Int → Hp → VK → Prop := fun x lo hi H Q => ∃ S dx, Sub S H ∧ Rp K S dx x ∧ post (sliceD dx lo hi) (fun d => ∀ v H' S', Grow H S H' S' → Rp K S' d v → Q v H') (fun _ => False)
theorem cut_rp {K : PySem.W.Frag} {S : Hp} {ds : List PyData} {vs : List V} (lo hi : Option Int) (h : RpA K S ds vs) : RpA K S (cutD ds lo hi) (cutV vs lo hi) := by
  unfold cutD cutV
  rw [h.length]
  exact RpA.take _ (RpA.drop _ h)
theorem slr : SlR X (rS X.K) := by
  intro pins s σ H x v vl vu lo hi sl Q I rx hs pl pu ⟨S, dx, hS, hx, h⟩
  cases dx <;> simp only [sliceD] at h <;> try exact h.elim
  · rename_i xs
    simp only [Rp] at hx
    obtain ⟨a, vs, rfl, ha, ra⟩ := hx
    exact sl_list pins s σ H _ v vl vu lo hi sl Q I rx hs pl pu ⟨a, vs, rfl, SqL.ofS (hS _ _ ha), fun p hp =>
      h _ _ _ (Grow.laid hS hp _) (Rp.lst upd_same ((cut_rp lo hi ra).sub (sub_upd (hS.none hp))))⟩
  · rename_i xs
    simp only [Rp] at hx
    obtain ⟨a, vs, rfl, ha, ra⟩ := hx
    refine sl_tupA pins s σ H _ v vl vu lo hi sl Q I rx hs pl pu ⟨a, vs, rfl, SqT.sub hS ha, fun e => ?_, fun e p hp =>
      h _ _ _ (Grow.laid hS hp _) (Rp.tup upd_same ((cut_rp lo hi ra).sub (sub_upd (hS.none hp))))⟩
    refine h _ H S (Grow.refl hS) ?_
    have e2 : cutD xs lo hi = xs := by
      unfold cutD
      rw [← ra.length, e.1, e.2, ra.length]
      simp
    rw [e2]
    simp only [Rp]
    exact ⟨a, vs, rfl, ha, ra⟩

def Blt.fn : Blt → Value
  | .len => .builtin "len"
  | .abs => .builtin "abs"
  | .int => .type "int"
  | .str => .type "str"
  | .tuple => .type "tuple"
  | .list => .type "list"
  | .min2 => .builtin "min"
  | .max2 => .builtin "max"
  | .sum => .builtin "sum"
  | .min1 => .builtin "min"
  | .max1 => .builtin "max"
def Blt.nm : Blt → Str
  | .len => "len"
  | .abs => "abs"
  | .int => "int"
  | .str => "str"
  | .tuple => "tuple"
  | .list => "list"
  | .min2 => "min"
  | .max2 => "max"
  | .sum => "sum"
  | .min1 => "min"
  | .max1 => "max"
theorem Blt.boot (b : Blt) : bootBuiltins b.nm = some b.fn := by cases b <;> decide +kernel
def rBl (K : PySem.W.Frag) (b : Blt) : List V → Hp → VK → Prop := fun xs H Q => ∃ S ds, Sub S H ∧ RpA K S ds xs ∧ post (bltD b ds) (fun d => ∀ v H' S', Grow H S H' S' → Rp K S' d v → Q v H') (fun _ => False)
theorem one_of {K : PySem.W.Frag} {S : Hp} {d : PyData} {xs : List V} (h : RpA K S [d] xs) : ∃ v, xs = [v] ∧ Rp K S d v := by
  simp only [RpA] at h
  obtain ⟨v, r, e, q, e2⟩ := h
  subst e2
  exact ⟨v, e, q⟩
theorem two_of {K : PySem.W.Frag} {S : Hp} {d e : PyData} {xs : List V} (h : RpA K S [d, e] xs) : ∃ v u, xs = [v, u] ∧ Rp K S d v ∧ Rp K S e u := by
  simp only [RpA] at h
  obtain ⟨v, r, e1, q, v', r', e2, q', e3⟩ := h
  subst e3 e2
  exact ⟨v, v', e1, q, q'⟩
section
variable {K : PySem.W.Frag} {S : Hp} {ds : List PyData} {vs : List V} {Pp : PyData → Prop}
theorem sumD_ok (ra : RpA K S ds vs) (h : post (sumD ds) Pp fun _ => False) : ∃ ks : List Int, vs = ks.map V.int ∧ Pp (.int ks.sum) := by
  unfold sumD at h
  split at h
  · rename_i e
    exact ⟨_, RpA.ints ra e, h⟩
  · exact h.elim
theorem lowD_ok (ra : RpA K S ds vs) (h : post (lowD ds) Pp fun _ => False) : ∃ (k : Int) (ks : List Int), vs = (k :: ks).map V.int ∧ Pp (.int (lowI k ks)) := by
  unfold lowD at h
  split at h
  · rename_i e
    exact ⟨_, _, RpA.ints ra e, h⟩
  · exact h.elim
theorem highD_ok (ra : RpA K S ds vs) (h : post (highD ds) Pp fun _ => False) : ∃ (k : Int) (ks : List Int), vs = (k :: ks).map V.int ∧ Pp (.int (highI k ks)) := by
  unfold highD at h
  split at h
  · rename_i e
    exact ⟨_, _, RpA.ints ra e, h⟩
  · exact h.elim
end
theorem lowI_mem : ∀ (ks : List Int) (k : Int), lowI k ks ∈ k :: ks ∧ ∀ y ∈ k :: ks, lowI k ks ≤ y
  | [], k => ⟨by simp [lowI], fun y hy => by simp at hy; subst hy; exact Int.le_refl _⟩
  | m :: ks, k => by
    obtain ⟨h1, h2⟩ := lowI_mem ks (if m < k then m else k)
    unfold lowI
    refine ⟨?_, fun y hy => ?_⟩
    · rcases List.mem_cons.mp h1 with e | e
      · rw [e]; split <;> simp
      · simp [e]
    · have h3 := h2 _ List.mem_cons_self
      rcases List.mem_cons.mp hy with e | e
      · subst e; exact Int.le_trans h3 (by split <;> omega)
      · rcases List.mem_cons.mp e with e | e
        · subst e; exact Int.le_trans h3 (by split <;> omega)
        · exact h2 _ (List.mem_cons_of_mem _ e)
theorem highI_mem : ∀ (ks : List Int) (k : Int), highI k ks ∈ k :: ks ∧ ∀ y ∈ k :: ks, y ≤ highI k ks
  | [], k => ⟨by simp [highI], fun y hy => by simp at hy; subst hy; exact Int.le_refl _⟩
  | m :: ks, k => by
    obtain ⟨h1, h2⟩ := highI_mem ks (if k < m then m else k)
    unfold highI
    refine ⟨?_, fun y hy => ?_⟩
    · rcases List.mem_cons.mp h1 with e | e
      · rw [e]; split <;> simp
      · simp [e]
    · have h3 := h2 _ List.mem_cons_self
      rcases List.mem_cons.mp hy with e | e
      · subst e; exact Int.le_trans (by split <;> omega) h3
      · rcases List.mem_cons.mp e with e | e
        · subst e; exact Int.le_trans (by split <;> omega) h3
        · exact h2 _ (List.mem_cons_of_mem _ e)
theorem low_is {k : Int} {ks : List Int} {m : Int} (h1 : m ∈ k :: ks) (h2 : ∀ y ∈ k :: ks, m ≤ y) : lowI k ks = m := by
  obtain ⟨g1, g2⟩ := lowI_mem ks k
  have a1 := h2 _ g1
  have a2 := g2 _ h1
  omega
theorem high_is {k : Int} {ks : List Int} {m : Int} (h1 : m ∈ k :: ks) (h2 : ∀ y ∈ k :: ks, y ≤ m) : highI k ks = m := by
  obtain ⟨g1, g2⟩ := highI_mem ks k
  have a1 := h2 _ g1
  have a2 := g2 _ h1
  omega
theorem blr (hc : X.calm = true) (b : Blt) : CallR X b.fn (rBl X.K b) := by
  intro pins s σ H xs us Q I r ⟨S, ds, hS, hx, h⟩
  unfold bltD at h
  split at h
  · obtain ⟨v, rfl, q⟩ := one_of hx
    simp only [Rp] at q
    obtain ⟨a, vs, rfl, ha, ra⟩ := q
    exact call_len pins s σ H _ us Q I r ⟨_, _, rfl, .inr ⟨vs, SqT.sub hS ha, rfl⟩, by rw [ra.length]; exact h _ H S (Grow.refl hS) (rpI _)⟩
  · obtain ⟨v, rfl, q⟩ := one_of hx
    simp only [Rp] at q
    obtain ⟨a, vs, rfl, ha, ra⟩ := q
    exact call_len pins s σ H _ us Q I r ⟨_, _, rfl, .inl ⟨vs, SqL.ofS (hS _ _ ha), rfl⟩, by rw [ra.length]; exact h _ H S (Grow.refl hS) (rpI _)⟩
  · obtain ⟨v, rfl, q⟩ := one_of hx
    simp only [Rp] at q
    obtain ⟨a, ns, e0, rfl, ha⟩ := q
    simp only [List.cons.injEq, Prod.mk.injEq, PyData.list.injEq, and_true, true_and] at e0
    subst e0
    refine call_len pins s σ H _ us Q I r ⟨_, _, rfl, .inl ⟨_, SqL.sub hS ha, rfl⟩, ?_⟩
    rw [List.length_map]
    have h2 := h (.int ns.length) H S (Grow.refl hS) (by rw [List.length_map]; exact rpI _)
    exact h2
  · obtain ⟨v, rfl, q⟩ := one_of hx
    cases rp_str q
    obtain ⟨hz, h⟩ := post_if h
    exact call_len pins s σ H _ us Q I r ⟨_, _, rfl, ⟨Nat.le_trans hz bigLine, rfl⟩, h _ H S (Grow.refl hS) (rpI _)⟩
  · obtain ⟨v, rfl, q⟩ := one_of hx
    cases rp_int q
    exact call_abs pins s σ H _ us Q I r ⟨_, rfl, h _ H S (Grow.refl hS) (rpI _)⟩
  · obtain ⟨v, rfl, q⟩ := one_of hx
    cases rp_int q
    exact call_int1 pins s σ H _ us Q I r (.inl ⟨_, rfl, h _ H S (Grow.refl hS) (rpI _)⟩)
  · obtain ⟨v, rfl, q⟩ := one_of hx
    cases rp_bool q
    exact call_int1 pins s σ H _ us Q I r (.inr ⟨_, rfl, h _ H S (Grow.refl hS) (rpI _)⟩)
  · obtain ⟨v, rfl, q⟩ := one_of hx
    cases rp_int q
    obtain ⟨hz, h⟩ := post_if h
    exact call_str_int pins s σ H _ us Q I r ⟨_, rfl, hz, h _ H S (Grow.refl hS) (rpS _)⟩
  · obtain ⟨v, rfl, q⟩ := one_of hx
    simp only [Rp] at q
    obtain ⟨a, vs, rfl, ha, ra⟩ := q
    exact call_tuple_of pins s σ H _ us Q I r ⟨a, vs, rfl, .inl ⟨SqL.ofS (hS _ _ ha), fun p hp =>
      h _ _ _ (Grow.laid hS hp _) (Rp.tup upd_same (ra.sub (sub_upd (hS.none hp))))⟩⟩
  · obtain ⟨v, rfl, q⟩ := one_of hx
    simp only [Rp] at q
    obtain ⟨a, vs, rfl, ha, ra⟩ := q
    exact call_tuple_of pins s σ H _ us Q I r ⟨a, vs, rfl, .inr ⟨SqT.sub hS ha, h _ H S (Grow.refl hS) (by simp only [Rp]; exact ⟨a, vs, rfl, ha, ra⟩)⟩⟩
  · obtain ⟨v, rfl, q⟩ := one_of hx
    simp only [Rp] at q
    obtain ⟨a, vs, rfl, ha, ra⟩ := q
    exact call_list_of pins s σ H _ us Q I r ⟨a, vs, rfl, .inl (SqL.ofS (hS _ _ ha)), fun p hp =>
      h _ _ _ (Grow.laid hS hp _) (Rp.lst upd_same (ra.sub (sub_upd (hS.none hp))))⟩
  · obtain ⟨v, rfl, q⟩ := one_of hx
    simp only [Rp] at q
    obtain ⟨a, vs, rfl, ha, ra⟩ := q
    exact call_list_of pins s σ H _ us Q I r ⟨a, vs, rfl, .inr (SqT.sub hS ha), fun p hp =>
      h _ _ _ (Grow.laid hS hp _) (Rp.lst upd_same (ra.sub (sub_upd (hS.none hp))))⟩
  · obtain ⟨v, u, rfl, q1, q2⟩ := two_of hx
    cases rp_int q1; cases rp_int q2
    exact call_min2 hc pins s σ H _ us Q I r ⟨_, _, rfl, h _ H S (Grow.refl hS) (rpI _)⟩
  · obtain ⟨v, u, rfl, q1, q2⟩ := two_of hx
    cases rp_int q1; cases rp_int q2
    exact call_max2 hc pins s σ H _ us Q I r ⟨_, _, rfl, h _ H S (Grow.refl hS) (rpI _)⟩
  · obtain ⟨v, rfl, q⟩ := one_of hx
    simp only [Rp] at q
    obtain ⟨a, vs, rfl, ha, ra⟩ := q
    obtain ⟨ks, e1, e2⟩ := sumD_ok ra h
    subst e1
    exact cr_sum hc pins s σ H _ us Q I r ⟨a, ks, rfl, SqL.ofS (hS _ _ ha), e2 _ H S (Grow.refl hS) (rpI _)⟩
  · obtain ⟨v, rfl, q⟩ := one_of hx
    simp only [Rp] at q
    obtain ⟨a, vs, rfl, ha, ra⟩ := q
    obtain ⟨ks, e1, e2⟩ := sumD_ok ra h
    subst e1
    exact cr_sumT hc pins s σ H _ us Q I r ⟨a, ks, rfl, SqT.sub hS ha, e2 _ H S (Grow.refl hS) (rpI _)⟩
  · obtain ⟨v, rfl, q⟩ := one_of hx
    simp only [Rp] at q
    obtain ⟨a, vs, rfl, ha, ra⟩ := q
    obtain ⟨k, ks, e1, e2⟩ := lowD_ok ra h
    subst e1
    exact cr_min hc pins s σ H _ us Q I r ⟨a, k :: ks, rfl, SqL.ofS (hS _ _ ha), by simp, fun m h1 h2 => by rw [← low_is h1 h2]; exact e2 _ H S (Grow.refl hS) (rpI _)⟩
  · obtain ⟨v, rfl, q⟩ := one_of hx
    simp only [Rp] at q
    obtain ⟨a, vs, rfl, ha, ra⟩ := q
    obtain ⟨k, ks, e1, e2⟩ := lowD_ok ra h
    subst e1
    exact cr_minT hc pins s σ H _ us Q I r ⟨a, k :: ks, rfl, SqT.sub hS ha, by simp, fun m h1 h2 => by rw [← low_is h1 h2]; exact e2 _ H S (Grow.refl hS) (rpI _)⟩
  · obtain ⟨v, rfl, q⟩ := one_of hx
    simp only [Rp] at q
    obtain ⟨a, vs, rfl, ha, ra⟩ := q
    obtain ⟨k, ks, e1, e2⟩ := highD_ok ra h
    subst e1
    exact cr_max hc pins s σ H _ us Q I r ⟨a, k :: ks, rfl, SqL.ofS (hS _ _ ha), by simp, fun m h1 h2 => by rw [← high_is h1 h2]; exact e2 _ H S (Grow.refl hS) (rpI _)⟩
  · obtain ⟨v, rfl, q⟩ := one_of hx
    simp only [Rp] at q
    obtain ⟨a, vs, rfl, ha, ra⟩ := q
    obtain ⟨k, ks, e1, e2⟩ := highD_ok ra h
    subst e1
    exact cr_maxT hc pins s σ H _ us Q I r ⟨a, k :: ks, rfl, SqT.sub hS ha, by simp, fun m h1 h2 => by rw [← high_is h1 h2]; exact e2 _ H S (Grow.refl hS) (rpI _)⟩
  · exact h.elim
end
end DL
namespace DL
open PySem PySem.Spec PyProof.Rows L2

/-! ### these never raise -/
def Quiet {α : Type} (r : R α) : Prop := ∀ c, r ≠ .ex c
theorem quiet_post {α : Type} {r : R α} (q : Quiet r) {P : α → Prop} {E E' : Nat → Prop} (h : post r P E) : post r P E' := by
  cases r with
  | ok a => exact h
  | ex c => exact absurd rfl (q c)
  | bad => exact h
theorem quiet_ok {α : Type} {a : α} : Quiet (R.ok a) := fun _ h => by cases h
theorem quiet_bad {α : Type} : Quiet (R.bad : R α) := fun _ h => by cases h
theorem quiet_if {α : Type} {c : Prop} [Decidable c] {a b : R α} (ha : Quiet a) (hb : Quiet b) : Quiet (if c then a else b) := by
  by_cases q : c
  · rw [if_pos q]; exact ha
  · rw [if_neg q]; exact hb
theorem quiet_bind {α β : Type} {r : R α} {f : α → R β} (h : Quiet r) (g : ∀ a, Quiet (f a)) : Quiet (r.bind f) := by
  cases r with
  | ok a => exact g a
  | ex c => exact absurd rfl (h c)
  | bad => exact quiet_bad
theorem quiet_truth (d : PyData) : Quiet (truth d) := by
  unfold truth
  split <;> first | exact quiet_ok | exact quiet_bad | exact quiet_if quiet_ok quiet_bad
theorem quiet_binD (o : Bop) (a b : PyData) : Quiet (binD o a b) := by
  unfold binD
  split <;> first | exact quiet_ok | exact quiet_bad | exact quiet_if quiet_ok quiet_bad
theorem quiet_eqD (a b : PyData) : Quiet (eqD a b) := by
  unfold eqD
  split <;> first | exact quiet_ok | exact quiet_bad | exact quiet_if quiet_ok quiet_bad
theorem quiet_inD (a : PyData) (b : List PyData) : Quiet (inD a b) := quiet_if quiet_ok quiet_bad
theorem quiet_cmpD (o : Cop) (a b : PyData) : Quiet (cmpD o a b) := by
  unfold cmpD
  split <;> first | exact quiet_ok | exact quiet_bad | exact quiet_eqD _ _ | exact quiet_inD _ _ | exact quiet_bind (quiet_eqD _ _) fun _ => quiet_ok | exact quiet_bind (quiet_inD _ _) fun _ => quiet_ok
theorem quiet_atD (xs : List PyData) (i : Int) : Quiet (atD xs i) := by
  unfold atD
  split
  · split <;> first | exact quiet_ok | exact quiet_bad
  · split
    · split <;> first | exact quiet_ok | exact quiet_bad
    · exact quiet_bad
theorem quiet_subD (a b : PyData) : Quiet (subD a b) := by
  unfold subD
  split <;> first | exact quiet_atD _ _ | exact quiet_bad
theorem quiet_partD (a : PyData) : Quiet (partD a) := by
  unfold partD
  split <;> first | exact quiet_ok | exact quiet_bad
theorem quiet_sliceD (a : PyData) (lo hi : Option Int) : Quiet (sliceD a lo hi) := by
  unfold sliceD
  split <;> first | exact quiet_ok | exact quiet_bad
theorem quiet_sumD (xs : List PyData) : Quiet (sumD xs) := by
  unfold sumD
  split <;> first | exact quiet_ok | exact quiet_bad
theorem quiet_lowD (xs : List PyData) : Quiet (lowD xs) := by
  unfold lowD
  split <;> first | exact quiet_ok | exact quiet_bad
theorem quiet_highD (xs : List PyData) : Quiet (highD xs) := by
  unfold highD
  split <;> first | exact quiet_ok | exact quiet_bad
theorem quiet_bltD (b : Blt) (ds : List PyData) : Quiet (bltD b ds) := by
  unfold bltD
  split <;> first | exact quiet_ok | exact quiet_bad | exact quiet_if quiet_ok quiet_bad | exact quiet_sumD _ | exact quiet_lowD _ | exact quiet_highD _ | (split <;> first | exact quiet_ok | exact quiet_bad)
theorem quiet_isiD (a : PyData) (T : String) : Quiet (isiD a T) := by
  unfold isiD
  split <;> first | exact quiet_bad | (split <;> first | exact quiet_ok | exact quiet_bad)
theorem quiet_seqOf (a : PyData) : Quiet (seqOf a) := by
  unfold seqOf
  split <;> first | exact quiet_ok | exact quiet_bad

/-- the written part, the classes of errors, the wish -/
abbrev wh (X : Cx) (cl : Nat → Value) (W : WX) : Wh := ⟨X.K, cl, W⟩
/-- an expression is read so, as a value and as a test -/
structure Snd (X : Cx) (cl : Nat → Value) (W : WX) (e : Expr) (f : Env → R PyData) : Prop where
  pe : PE X e (tD (wh X cl W) f)
  pt : PT X e (tDT (wh X cl W) fun ρ => (f ρ).bind truth)

theorem truV_of {K : PySem.W.Frag} {S H : Hp} {d : PyData} {v : V} {P : Bool → Prop} {E : Nat → Prop} (hS : Sub S H) (hr : Rp K S d v) (h : post (truth d) P E) : ∃ k, TruV K v H k ∧ P k := by
  cases d <;> simp only [truth] at h
  · cases rp_none hr; exact ⟨false, rfl, h⟩
  · cases rp_bool hr; exact ⟨_, rfl, h⟩
  · cases rp_int hr; exact ⟨_, rfl, h⟩
  · cases rp_str hr
    obtain ⟨hz, h⟩ := post_if h
    exact ⟨_, ⟨Nat.le_trans hz bigLine, rfl⟩, h⟩
  · simp only [Rp] at hr
    obtain ⟨a, vs, rfl, ha, ra⟩ := hr
    rename_i xs
    refine ⟨!vs.isEmpty, .inl ⟨vs, SqL.ofS (hS _ _ ha), rfl⟩, ?_⟩
    have e : vs.isEmpty = xs.isEmpty := by
      have := ra.length
      cases xs <;> cases vs <;> simp_all
    rw [e]; exact h
  · simp only [Rp] at hr
    obtain ⟨a, vs, rfl, ha, ra⟩ := hr
    rename_i xs
    refine ⟨!vs.isEmpty, .inr (.inl ⟨vs, SqT.sub hS ha, rfl⟩), ?_⟩
    have e : vs.isEmpty = xs.isEmpty := by
      have := ra.length
      cases xs <;> cases vs <;> simp_all
    rw [e]; exact h
  · exact h.elim

def plainT : Expr → Bool
  | .UnaryOp .Not _ _ => false
  | .BoolOp _ _ _ => false
  | .IfExp _ _ _ _ => false
  | .Compare _ _ _ _ => false
  | _ => true
theorem plain_isTrue {e : Expr} {env : PySem.Env} (h : plainT e = true) : ∀ whole, isTrue e env whole = (do let v ← whole; standAt e.pos; holding [v] (truthy v)) := by
  intro whole
  cases e <;> first | rfl | (simp [plainT] at h; done) | (rename_i op _ _; cases op <;> first | rfl | (simp [plainT] at h; done))
def notStar : Expr → Bool
  | .Starred _ _ => false
  | _ => true
theorem star_cons {e : Expr} {es : List Expr} {env : PySem.Env} (h : notStar e = true) : starEach (e :: es) env = (false, eval e env) :: starEach es env := by
  cases e <;> first | rfl | (simp [notStar] at h; done)
theorem back_any {pos : Pos} {env : PySem.Env} : ∀ {es : List Expr}, es.all notStar = true → (backTo pos (starEach es env)).any (·.1) = false
  | [], _ => rfl
  | e :: es, h => by
    rw [List.all_cons, Bool.and_eq_true] at h
    rw [star_cons h.1]
    have := back_any (pos := pos) (env := env) h.2
    unfold backTo at this ⊢
    rw [List.map_cons, List.any_cons, this]
    rfl
def plainIx : Expr → Bool
  | .Slice _ _ _ _ => false
  | _ => true
theorem plain_ix {e : Expr} (h : plainIx e = true) : PlainIx e := by
  intro o i
  cases e <;> first | rfl | (simp [plainIx] at h; done)

section
variable {X : Cx} {cl : Nat → Value} {W : WX} {e a b c : Expr} {f fa fb fc : Env → R PyData} {pos : Pos} {call : Nat → List PyData → R PyData}
theorem pt_plain (h : PE X e (tD (wh X cl W) f)) (he : plainT e = true) : PT X e (tDT (wh X cl W) fun ρ => (f ρ).bind truth) :=
  pt_imp (pt_truth h (plain_isTrue he)) fun σ H Q ⟨S, ρ, hS, hr, h⟩ => td_one hS hr (post_bind.mp h) fun d v H' S' p g q => by
    obtain ⟨k, e1, e2⟩ := truV_of g.in_ q p
    exact ⟨k, e1, e2 H' S' g⟩
theorem Snd.of (h : PE X e (tD (wh X cl W) f)) (he : plainT e = true) : Snd X cl W e f := ⟨h, pt_plain h he⟩
theorem Snd.imp {f' : Env → R PyData} (h : Snd X cl W e f) (hf : f' = f) : Snd X cl W e f' := by subst hf; exact h

theorem snd_var {i : Nat} {x : Str} (hN : X.N[i]? = some x) (hv : Vis X.env.scope x) (hd : (x == ("__debug__" : Str)) = false) (hcd : (x == ("__classdict__" : Str)) = false) : Snd X cl W (.Name x pos) (ev call (.var i)) := by
  refine Snd.of (pe_imp (pe_var hN hv hd hcd) fun σ H Q ⟨S, ρ, hS, hr, h⟩ => ?_) rfl
  simp only [ev] at h
  cases e1 : ρ[i]? with
  | none => rw [e1] at h; exact h.elim
  | some s =>
    rw [e1] at h
    dsimp only at h
    cases e2 : s.val with
    | none => rw [e2] at h; exact h.elim
    | some d =>
      rw [e2] at h
      obtain ⟨v, q1, q2⟩ := hr i s d e1 e2
      exact ⟨v, q1, h v H S (Grow.refl hS) q2⟩
theorem snd_int {i : Int} {j : Nat} : Snd X cl W (.Constant (.int i) j pos) (ev call (.int i)) :=
  Snd.of (pe_imp pe_int fun σ H Q ⟨S, ρ, hS, hr, h⟩ => h _ H S (Grow.refl hS) (rpI _)) rfl
theorem snd_bl {i : Bool} {j : Nat} : Snd X cl W (.Constant (.bool i) j pos) (ev call (.bl i)) :=
  Snd.of (pe_imp pe_bl fun σ H Q ⟨S, ρ, hS, hr, h⟩ => h _ H S (Grow.refl hS) (rpB _)) rfl
theorem snd_non {j : Nat} : Snd X cl W (.Constant .none j pos) (ev call .non) :=
  Snd.of (pe_imp pe_non fun σ H Q ⟨S, ρ, hS, hr, h⟩ => h _ H S (Grow.refl hS) rpN) rfl
theorem snd_str {x : Str} {j : Nat} : Snd X cl W (.Constant (.str x) j pos) (ev call (.str x)) :=
  Snd.of (pe_imp pe_str fun σ H Q ⟨S, ρ, hS, hr, h⟩ => h _ H S (Grow.refl hS) (rpS _)) rfl
theorem snd_glob {j : Nat} {d : PyData} {x : Str} {v : V} {u : Value} (hg : Gl X x) (hm : X.mg x = some u) (r : RelV v u) (hr : ∀ S, Rp X.K S d v) (hd : (x == ("__debug__" : Str)) = false) : Snd X cl W (.Name x pos) (ev call (.glob j d)) :=
  Snd.of (pe_imp (pe_glob hg hm r hd) fun σ H Q ⟨S, ρ, hS, _, h⟩ => h _ H S (Grow.refl hS) (hr S)) rfl

theorem snd_bin {o : Bop} (ha : Snd X cl W a fa) (hb : Snd X cl W b fb) : Snd X cl W (.BinOp a o.op b pos) fun ρ => (fa ρ).bind fun x => (fb ρ).bind fun y => binD o x y := by
  refine Snd.of (pe_imp (pe_op (opr o) ha.pe hb.pe) fun σ H Q ⟨S, ρ, hS, hr, h⟩ => ?_) rfl
  simp only [post_bind] at h
  exact td_two hS hr h fun x y vx vy H2 S2 p g qx qy => ⟨S2, x, y, g.in_, qx, qy, quiet_post (quiet_binD o x y) (post_mono p (fun d q v H' S' g' r => q v H' S' (g.trans g') r) fun _ z => z)⟩
theorem snd_neg (ha : Snd X cl W a fa) : Snd X cl W (.UnaryOp .USub a pos) fun ρ => (fa ρ).bind negD := by
  refine Snd.of (pe_imp (pe_un un_neg ha.pe) fun σ H Q ⟨S, ρ, hS, hr, h⟩ => ?_) rfl
  simp only [post_bind] at h
  refine td_one hS hr h fun d v H' S' p g q => ?_
  cases d <;> simp only [negD] at p <;> try exact p.elim
  cases rp_int q
  exact ⟨_, rfl, p _ H' S' g (rpI _)⟩
theorem rC_of {o : Cop} {x y : PyData} {vx vy : V} {H S : Hp} {Q : VK} {P : Bool → Prop} {E : Nat → Prop} {K : PySem.W.Frag} (hS : Sub S H) (hx : Rp K S x vx) (hy : Rp K S y vy) (h : post (cmpD o x y) P E) (hP : ∀ k, P k → Q (.bl k) H) : rC K o vx vy H Q :=
  ⟨S, x, y, hS, hx, hy, quiet_post (quiet_cmpD o x y) (post_mono h hP fun _ z => z)⟩
theorem snd_cmp {o : Cop} (hu : X.A.units + 64 < cLine) (ha : Snd X cl W a fa) (hb : Snd X cl W b fb) (hm : behindInMarks o.op b = false) :
    Snd X cl W (.Compare a [o.op] [b] pos) fun ρ => (fa ρ).bind fun x => (fb ρ).bind fun y => (cmpD o x y).bind fun k => .ok (.bool k) := by
  refine ⟨pe_imp (pe_cmpR (cpr hu o) ha.pe hb.pe hm) fun σ H Q ⟨S, ρ, hS, hr, h⟩ => ?_, pt_imp (pt_cmpR (cpr hu o) ha.pe hb.pe hm) fun σ H Q ⟨S, ρ, hS, hr, h⟩ => ?_⟩
  · simp only [post_bind] at h
    exact td_two hS hr h fun x y vx vy H2 S2 p g qx qy => rC_of g.in_ qx qy p fun k q => q _ H2 S2 g (rpB _)
  · simp only [post_bind] at h
    exact td_two hS hr h fun x y vx vy H2 S2 p g qx qy => rC_of g.in_ qx qy p fun k q => ⟨k, rfl, q H2 S2 g⟩
theorem snd_chain {o o' : Cop} (hu : X.A.units + 64 < cLine) (ha : Snd X cl W a fa) (hb : Snd X cl W b fb) (hc : Snd X cl W c fc) (hm : behindInMarks o.op b = false) (hm' : behindInMarks o'.op c = false)
    (hpe : PE X (.Compare a [o.op, o'.op] [b, c] pos) (tChain (rC X.K o) (rC X.K o') (tD (wh X cl W) fa) (tD (wh X cl W) fb) (tD (wh X cl W) fc)))
    (hpt : PT X (.Compare a [o.op, o'.op] [b, c] pos) (tTest (tChain (rC X.K o) (rC X.K o') (tD (wh X cl W) fa) (tD (wh X cl W) fb) (tD (wh X cl W) fc)))) :
    Snd X cl W (.Compare a [o.op, o'.op] [b, c] pos) fun ρ => (fa ρ).bind fun x => (fb ρ).bind fun y => (cmpD o x y).bind fun k => if k then (fc ρ).bind fun z => (cmpD o' y z).bind fun k' => .ok (.bool k') else .ok (.bool false) := by
  refine ⟨pe_imp hpe fun σ H Q ⟨S, ρ, hS, hr, h⟩ => ?_, pt_imp hpt fun σ H Q ⟨S, ρ, hS, hr, h⟩ => ?_⟩
  · simp only [post_bind] at h
    refine td_one hS hr h fun x vx H1 S1 p1 g1 q1 => ?_
    refine td_one g1.in_ (hr.sub g1.s) (post_mono p1 (fun _ z => z) fun c e => Wh.E.up e g1.h) fun y vy H2 S2 p2 g2 q2 => ?_
    refine rC_of g2.in_ (Rp.sub g2.s x vx q1) q2 p2 fun k p3 => ⟨k, rfl, ?_⟩
    cases k with
    | true =>
      simp only [if_true, post_bind] at p3 ⊢
      refine td_one g2.in_ ((hr.sub g1.s).sub g2.s) (post_mono p3 (fun _ z => z) fun c e => Wh.E.up e (g1.h.trans g2.h)) fun z vz H3 S3 p4 g3 q3 => ?_
      exact rC_of g3.in_ (Rp.sub g3.s y vy q2) q3 p4 fun k q => q _ H3 S3 ((g1.trans g2).trans g3) (rpB _)
    | false =>
      simp only [Bool.false_eq_true, if_false] at p3 ⊢
      exact p3 _ H2 S2 (g1.trans g2) (rpB _)
  · simp only [post_bind] at h
    refine td_one hS hr h fun x vx H1 S1 p1 g1 q1 => ?_
    refine td_one g1.in_ (hr.sub g1.s) (post_mono p1 (fun _ z => z) fun c e => Wh.E.up e g1.h) fun y vy H2 S2 p2 g2 q2 => ?_
    refine rC_of g2.in_ (Rp.sub g2.s x vx q1) q2 p2 fun k p3 => ⟨k, rfl, ?_⟩
    cases k with
    | true =>
      simp only [if_true, post_bind] at p3 ⊢
      refine td_one g2.in_ ((hr.sub g1.s).sub g2.s) (post_mono p3 (fun _ z => z) fun c e => Wh.E.up e (g1.h.trans g2.h)) fun z vz H3 S3 p4 g3 q3 => ?_
      exact rC_of g3.in_ (Rp.sub g3.s y vy q2) q3 p4 fun k q => ⟨k, rfl, q H3 S3 ((g1.trans g2).trans g3)⟩
    | false =>
      simp only [Bool.false_eq_true, if_false] at p3 ⊢
      exact ⟨false, rfl, p3 H2 S2 (g1.trans g2)⟩
theorem snd_not (ha : Snd X cl W a fa) : Snd X cl W (.UnaryOp .Not a pos) fun ρ => (fa ρ).bind fun x => (truth x).bind fun k => .ok (.bool (!k)) := by
  refine ⟨pe_imp (pe_notT ha.pe) fun σ H Q ⟨S, ρ, hS, hr, h⟩ => ?_, pt_imp (pt_not ha.pt) fun σ H Q ⟨S, ρ, hS, hr, h⟩ => ?_⟩
  · simp only [post_bind] at h
    refine td_one hS hr h fun d v H' S' p g q => ?_
    obtain ⟨k, e1, e2⟩ := truV_of g.in_ q p
    exact ⟨k, e1, e2 _ H' S' g (rpB _)⟩
  · simp only [post_bind] at h
    refine ⟨S, ρ, hS, hr, post_bind.mpr (post_mono h (fun d p => post_mono p (fun k q H' S' g => q H' S' g) fun _ z => z) fun _ z => z)⟩
/-- a run of and | or behind its first -/
structure SndB (X : Cx) (cl : Nat → Value) (W : WX) (op : BoolOp) (es : List Expr) (pos : Pos) (f : Env → R PyData) : Prop where
  pe : PE X (.BoolOp op es pos) (tD (wh X cl W) f)
  pw : PW X (.BoolOp op es pos) (tDT (wh X cl W) fun ρ => (f ρ).bind truth)
theorem SndB.snd {op : BoolOp} {es : List Expr} (h : SndB X cl W op es pos f) : Snd X cl W (.BoolOp op es pos) f := ⟨h.pe, h.pw.pt⟩
theorem sndB_one {op : BoolOp} (h : Snd X cl W a f) : SndB X cl W op [a] pos f := ⟨pe_one h.pe, by cases op; exact pw_and1 h.pt; exact pw_or1 h.pt⟩
theorem pw_imp {e : Expr} {t t' : TT} (h : PW X e t) (hi : ∀ σ H Q, t' σ H Q → t σ H Q) : PW X e t' := ⟨fun wh pins s σ H Q I q => h.run wh pins s σ H Q I (hi σ H Q q)⟩
theorem sndB_and {rest : List Expr} (ha : Snd X cl W a fa) (hb : SndB X cl W .And (b :: rest) pos fb) :
    SndB X cl W .And (a :: b :: rest) pos fun ρ => (fa ρ).bind fun x => (truth x).bind fun k => if k then fb ρ else .ok x := by
  refine ⟨pe_imp (pe_andT ha.pe hb.pe) fun σ H Q ⟨S, ρ, hS, hr, h⟩ => ?_, pw_imp (pw_and ha.pt hb.pw) fun σ H Q ⟨S, ρ, hS, hr, h⟩ => ?_⟩
  · simp only [post_bind] at h
    refine td_one hS hr h fun d v H' S' p g q => ?_
    obtain ⟨k, e1, e2⟩ := truV_of g.in_ q p
    refine ⟨k, e1, ?_⟩
    cases k with
    | true =>
      simp only [if_true] at e2 ⊢
      exact td_one g.in_ (hr.sub g.s) (post_mono e2 (fun _ z => z) fun c e => Wh.E.up e g.h) fun d2 v2 H2 S2 p2 g2 q2 => p2 _ _ _ (g.trans g2) q2
    | false =>
      simp only [Bool.false_eq_true, if_false] at e2 ⊢
      exact e2 _ _ _ g q
  · simp only [post_bind] at h
    refine ⟨S, ρ, hS, hr, post_bind.mpr (post_monoR h (fun d hd p => ?_) fun _ z => z)⟩
    have p' := post_monoR (P' := fun k => truth d = .ok k ∧ post (if k = true then fb ρ else R.ok d) (fun a => post (truth a) (fun b => ∀ H' S', Grow H S H' S' → Q b H') ((wh X cl W).E σ H)) ((wh X cl W).E σ H)) p (fun k hk q => ⟨hk, q⟩) fun _ z => z
    refine post_mono p' (fun k ⟨hk, q⟩ H' S' g => ?_) fun _ z => z
    cases k with
    | true =>
      simp only [if_true] at q ⊢
      exact ⟨S', ρ, g.in_, hr.sub g.s, post_bind.mpr (post_mono q (fun d2 q2 => post_mono q2 (fun b q3 H3 S3 g3 => q3 H3 S3 (g.trans g3)) fun c e => Wh.E.up e g.h) fun c e => Wh.E.up e g.h)⟩
    | false =>
      simp only [Bool.false_eq_true, if_false] at q ⊢
      have q : post (truth d) (fun b => ∀ H' S', Grow H S H' S' → Q b H') ((wh X cl W).E σ H) := q
      rw [hk] at q
      exact q H' S' g
theorem sndB_or {rest : List Expr} (ha : Snd X cl W a fa) (hb : SndB X cl W .Or (b :: rest) pos fb) :
    SndB X cl W .Or (a :: b :: rest) pos fun ρ => (fa ρ).bind fun x => (truth x).bind fun k => if k then .ok x else fb ρ := by
  refine ⟨pe_imp (pe_orT ha.pe hb.pe) fun σ H Q ⟨S, ρ, hS, hr, h⟩ => ?_, pw_imp (pw_or ha.pt hb.pw) fun σ H Q ⟨S, ρ, hS, hr, h⟩ => ?_⟩
  · simp only [post_bind] at h
    refine td_one hS hr h fun d v H' S' p g q => ?_
    obtain ⟨k, e1, e2⟩ := truV_of g.in_ q p
    refine ⟨k, e1, ?_⟩
    cases k with
    | false =>
      simp only [Bool.false_eq_true, if_false] at e2 ⊢
      exact td_one g.in_ (hr.sub g.s) (post_mono e2 (fun _ z => z) fun c e => Wh.E.up e g.h) fun d2 v2 H2 S2 p2 g2 q2 => p2 _ _ _ (g.trans g2) q2
    | true =>
      simp only [if_true] at e2 ⊢
      exact e2 _ _ _ g q
  · simp only [post_bind] at h
    refine ⟨S, ρ, hS, hr, post_bind.mpr (post_monoR h (fun d hd p => ?_) fun _ z => z)⟩
    have p' := post_monoR (P' := fun k => truth d = .ok k ∧ post (if k = true then R.ok d else fb ρ) (fun a => post (truth a) (fun b => ∀ H' S', Grow H S H' S' → Q b H') ((wh X cl W).E σ H)) ((wh X cl W).E σ H)) p (fun k hk q => ⟨hk, q⟩) fun _ z => z
    refine post_mono p' (fun k ⟨hk, q⟩ H' S' g => ?_) fun _ z => z
    cases k with
    | false =>
      simp only [Bool.false_eq_true, if_false] at q ⊢
      exact ⟨S', ρ, g.in_, hr.sub g.s, post_bind.mpr (post_mono q (fun d2 q2 => post_mono q2 (fun b q3 H3 S3 g3 => q3 H3 S3 (g.trans g3)) fun c e => Wh.E.up e g.h) fun c e => Wh.E.up e g.h)⟩
    | true =>
      simp only [if_true] at q ⊢
      have q : post (truth d) (fun b => ∀ H' S', Grow H S H' S' → Q b H') ((wh X cl W).E σ H) := q
      rw [hk] at q
      exact q H' S' g
end
end DL
namespace DL
open PySem PySem.Spec PyProof.Rows L2
section
variable {X : Cx} {cl : Nat → Value} {W : WX} {e a b c : Expr} {es : List Expr} {f fa fb fc : Env → R PyData} {pos : Pos} {call : Nat → List PyData → R PyData}
/-! ### a if t else b -/
def tIfT (t u v : TT) : TT := fun σ H Q => t σ H fun k H1 => if k = true then u σ H1 Q else v σ H1 Q
theorem pt_ifExp {tc ta tb : TT} (hc : PT X c tc) (ha : PT X a ta) (hb : PT X b tb) : PT X (.IfExp c a b pos) (tIfT tc ta tb) := by
  refine ⟨fun pins s σ H Q I h => ?_⟩
  refine isTrue_IfExp (thn (hc.run pins s σ H _ I h) fun d s1 ⟨H1, I1, q1⟩ => ?_)
  cases d with
  | true => exact ha.run pins s1 σ H1 Q I1 q1
  | false => exact hb.run pins s1 σ H1 Q I1 q1
theorem post_up {α : Type} {r : R α} {P P' : α → Prop} {w : Wh} {σ : St} {H H1 : Hp} (h : post r P (w.E σ H)) (s : Sub H H1) (hp : ∀ a, P a → P' a) : post r P' (w.E σ H1) := post_mono h hp fun _ e => Wh.E.up e s
theorem snd_ite (hc : Snd X cl W c fc) (ha : Snd X cl W a fa) (hb : Snd X cl W b fb) : Snd X cl W (.IfExp c a b pos) fun ρ => (fc ρ).bind fun x => (truth x).bind fun k => if k then fa ρ else fb ρ := by
  refine ⟨pe_imp (pe_ifExp hc.pt ha.pe hb.pe) fun σ H Q ⟨S, ρ, hS, hr, h⟩ => ?_, pt_imp (pt_ifExp hc.pt ha.pt hb.pt) fun σ H Q ⟨S, ρ, hS, hr, h⟩ => ?_⟩
  · simp only [post_bind] at h
    refine ⟨S, ρ, hS, hr, post_bind.mpr (post_mono h (fun d p => post_mono p (fun k q H' S' g => ?_) fun _ z => z) fun _ z => z)⟩
    cases k with
    | true =>
      simp only [if_true] at q ⊢
      exact ⟨S', ρ, g.in_, hr.sub g.s, post_up q g.h fun d q v H2 S2 g2 r => q v H2 S2 (g.trans g2) r⟩
    | false =>
      simp only [Bool.false_eq_true, if_false] at q ⊢
      exact ⟨S', ρ, g.in_, hr.sub g.s, post_up q g.h fun d q v H2 S2 g2 r => q v H2 S2 (g.trans g2) r⟩
  · simp only [post_bind] at h
    refine ⟨S, ρ, hS, hr, post_bind.mpr (post_mono h (fun d p => post_mono p (fun k q H' S' g => ?_) fun _ z => z) fun _ z => z)⟩
    cases k with
    | true =>
      simp only [if_true] at q ⊢
      exact ⟨S', ρ, g.in_, hr.sub g.s, post_bind.mpr (post_up q g.h fun d q => post_up q g.h fun b q H2 S2 g2 => q H2 S2 (g.trans g2))⟩
    | false =>
      simp only [Bool.false_eq_true, if_false] at q ⊢
      exact ⟨S', ρ, g.in_, hr.sub g.s, post_bind.mpr (post_up q g.h fun d q => post_up q g.h fun b q H2 S2 g2 => q H2 S2 (g.trans g2))⟩

/-! ### arguments, displays -/
abbrev SndA (X : Cx) (cl : Nat → Value) (W : WX) (es : List Expr) (f : Env → R PyData) : Prop := PA X es (tDA (wh X cl W) f)
theorem sndA_nil : SndA X cl W [] fun _ => .ok (.tuple []) := pa_imp pa_nil fun σ H Q ⟨S, ρ, hS, hr, h⟩ => h [] H S (Grow.refl hS) RpA.nil
theorem sndA_cons (ha : Snd X cl W a fa) (hb : SndA X cl W es fb) (hs : notStar a = true) : SndA X cl W (a :: es) fun ρ => (fa ρ).bind fun x => (fb ρ).bind (consD x) := by
  refine pa_imp (pa_cons ha.pe hb (star_cons hs)) fun σ H Q ⟨S, ρ, hS, hr, h⟩ => ?_
  simp only [post_bind] at h
  refine td_one hS hr h fun x vx H1 S1 p1 g1 q1 => ⟨S1, ρ, g1.in_, hr.sub g1.s, post_up p1 g1.h fun y p2 => ?_⟩
  cases y <;> simp only [consD] at p2 <;> try exact p2.elim
  exact fun vs H' S' g r => p2 _ H' S' (g1.trans g) (RpA.cons (Rp.sub g.s x vx q1) r)
theorem tda_one {S : Hp} {ρ : Env} {σ : St} {H : Hp} {r : List V → Hp → Prop} (hS : Sub S H) (hr : ShR X.K S σ ρ) {P : PyData → Prop}
    (h : post (f ρ) P ((wh X cl W).E σ H)) (hn : ∀ d, P d → ∃ ds, d = .tuple ds) (hP : ∀ ds vs H' S', P (.tuple ds) → Grow H S H' S' → RpA X.K S' ds vs → r vs H') : tDA (wh X cl W) f σ H r :=
  ⟨S, ρ, hS, hr, post_mono h (fun d p => by
    obtain ⟨ds, e⟩ := hn d p
    subst e
    exact fun vs H' S' g q => hP ds vs H' S' p g q) fun _ e => e⟩
theorem snd_tup {k : Nat} (h : SndA X cl W es f) (hz : ∀ ρ d, f ρ = .ok d → ∃ ds, d = .tuple ds ∧ ds.length ≤ big) : Snd X cl W (.Tuple es k pos) f := by
  refine Snd.of (pe_imp (pe_tup h) fun σ H Q ⟨S, ρ, hS, hr, h⟩ => ?_) rfl
  refine tda_one (P := fun d => f ρ = .ok d ∧ ∀ v H' S', Grow H S H' S' → Rp X.K S' d v → Q v H') hS hr (post_monoR h (fun d e q => ⟨e, q⟩) fun _ z => z) (fun d p => ?_) fun ds vs H' S' p g r => ?_
  · obtain ⟨ds, e, _⟩ := hz ρ d p.1
    exact ⟨ds, e⟩
  · obtain ⟨ds', e, hl⟩ := hz ρ _ p.1
    cases e
    exact ⟨by rw [r.length]; exact Nat.le_trans hl bigLine, fun q n => p.2 _ _ _ (g.trans (Grow.laid g.in_ n _)) (Rp.tup upd_same (r.sub (sub_upd (g.in_.none n))))⟩
theorem snd_lst (h : SndA X cl W es f) (hz : ∀ ρ d, f ρ = .ok d → ∃ ds, d = .tuple ds ∧ ds.length ≤ big) : Snd X cl W (.List es pos) fun ρ => (f ρ).bind lstD := by
  refine Snd.of (pe_imp (pe_lst h) fun σ H Q ⟨S, ρ, hS, hr, h⟩ => ?_) rfl
  simp only [post_bind] at h
  refine tda_one (P := fun d => f ρ = .ok d ∧ post (lstD d) (fun d => ∀ v H' S', Grow H S H' S' → Rp X.K S' d v → Q v H') ((wh X cl W).E σ H)) hS hr (post_monoR h (fun d e q => ⟨e, q⟩) fun _ z => z) (fun d p => ?_) fun ds vs H' S' p g r => ?_
  · obtain ⟨ds, e, _⟩ := hz ρ d p.1
    exact ⟨ds, e⟩
  · obtain ⟨ds', e, hl⟩ := hz ρ _ p.1
    cases e
    exact ⟨by rw [r.length]; exact Nat.le_trans hl bigLine, fun q n => p.2 _ _ _ (g.trans (Grow.laid g.in_ n _)) (Rp.lst upd_same (r.sub (sub_upd (g.in_.none n))))⟩

/-! ### subscripts, slices -/
theorem snd_sub (ha : Snd X cl W a fa) (hb : Snd X cl W b fb) (hs : plainIx b = true) : Snd X cl W (.Subscript a b pos) fun ρ => (fa ρ).bind fun x => (fb ρ).bind fun y => subD x y := by
  refine Snd.of (pe_imp (pe_ix ixr ha.pe hb.pe (plain_ix hs)) fun σ H Q ⟨S, ρ, hS, hr, h⟩ => ?_) rfl
  simp only [post_bind] at h
  exact td_two hS hr h fun x y vx vy H2 S2 p g qx qy => ⟨S2, x, y, g.in_, qx, qy, quiet_post (quiet_subD x y) (post_mono p (fun d q v H' S' g' r => q v H' S' (g.trans g') r) fun _ z => z)⟩
abbrev SndO (X : Cx) (cl : Nat → Value) (W : WX) (o : Option Expr) (f : Env → R PyData) : Prop := PO X o (tDO (wh X cl W) f)
theorem po_imp {o : Option Expr} {t t' : TO} (h : PO X o t) (hi : ∀ σ H Q, t' σ H Q → t σ H Q) : PO X o t' := ⟨fun pins s σ H Q I q => h.run pins s σ H Q I (hi σ H Q q)⟩
theorem sndO_none : SndO X cl W none fun _ => .ok .none := po_imp po_none fun σ H Q ⟨S, ρ, hS, hr, h⟩ => h H S (Grow.refl hS)
theorem sndO_some (ha : Snd X cl W a fa) : SndO X cl W (some a) fun ρ => (fa ρ).bind numD := by
  refine po_imp (po_some ha.pe) fun σ H Q ⟨S, ρ, hS, hr, h⟩ => ?_
  simp only [post_bind] at h
  refine td_one hS hr h fun d v H' S' p g q => ?_
  cases d <;> simp only [numD] at p <;> try exact p.elim
  cases rp_int q
  exact ⟨_, rfl, p H' S' g⟩
theorem snd_slice {lo hi : Option Expr} {p2 : Pos} (ha : Snd X cl W a fa) (hl : SndO X cl W lo fb) (hh : SndO X cl W hi fc) :
    Snd X cl W (.Subscript a (.Slice lo hi none p2) pos) fun ρ => (fa ρ).bind fun x => (fb ρ).bind fun l => (partD l).bind fun l' => (fc ρ).bind fun h => (partD h).bind fun h' => sliceD x l' h' := by
  refine Snd.of (pe_imp (pe_slice slr ha.pe hl hh) fun σ H Q ⟨S, ρ, hS, hr, h⟩ => ?_) rfl
  simp only [post_bind] at h
  refine td_one hS hr h fun x vx H1 S1 p1 g1 q1 => ⟨S1, ρ, g1.in_, hr.sub g1.s, post_bind.mpr ?_⟩
  refine post_up p1 g1.h fun l p2 => post_up p2 g1.h fun l' p3 H2 S2 g2 => ?_
  refine ⟨S2, ρ, g2.in_, (hr.sub g1.s).sub g2.s, post_bind.mpr (post_up p3 (g1.h.trans g2.h) fun u p4 => post_up p4 (g1.h.trans g2.h) fun u' p5 H3 S3 g3 => ?_)⟩
  exact ⟨S3, x, g3.in_, Rp.sub g3.s x vx (Rp.sub g2.s x vx q1), quiet_post (quiet_sliceD x l' u') (post_mono p5 (fun d q v H' S' g' r => q v H' S' (((g1.trans g2).trans g3).trans g') r) fun _ z => z)⟩
theorem snd_revL {k : Nat} {p1 p2 p3 : Pos} (ha : Snd X cl W a fa) : Snd X cl W (.Subscript a (.Slice none none (some (.UnaryOp .USub (.Constant (.int 1) k p1) p2)) p3) pos) fun ρ => (fa ρ).bind revD := by
  refine Snd.of (pe_imp (pe_revL ha.pe) fun σ H Q ⟨S, ρ, hS, hr, h⟩ => ?_) rfl
  simp only [post_bind] at h
  refine td_one hS hr h fun d v H' S' p g q => ?_
  cases d <;> simp only [revD] at p <;> try exact p.elim
  simp only [Rp] at q
  obtain ⟨l, vs, rfl, hl, rl⟩ := q
  exact ⟨l, vs, rfl, SqL.ofS (g.in_ _ _ hl), fun q n => p _ _ _ (g.trans (Grow.laid g.in_ n _)) (Rp.lst upd_same (rl.reverse.sub (sub_upd (g.in_.none n))))⟩

/-! ### calls -/
/-- a def over data: run tells what it gives of all its arguments -/
def spD (K : PySem.W.Frag) (cl : Nat → Value) (run : List PyData → R PyData) (n : Nat) : Sp := fun vs H Q E => vs.length = n ∧ ∃ S ds, Sub S H ∧ RpA K S ds vs ∧
  post (run ds) (fun d => ∀ v H' S', Grow H S H' S' → Rp K S' d v → Q v H') (fun c => ∀ H', Sub H H' → E (cl c) none H')
theorem run_fnD {k : Nat} {g : Addr} {fd : FuncData} {ps : List Str} {sp : Sp} {dvs : List V} {ds : List Value} {E : St → XK} {pins : List (Addr × Obj)} {σ : St} {H : Hp} {s : Shared} {Q : VK} {us : List Value} {vs : List V}
    (F : FnOk X.prog X.w X.K X.mg X.base (L2.CX X.prog X.w) k g fd ps sp) (hr : Room k X.A) (hb : Binds X.K fd ps ds) (hd : Vals dvs ds) (hx : PassesAt (L2.CX X.prog X.w) X σ (E σ))
    (I : Inv X pins σ H s) (r : Vals vs us) (h : sp (vs ++ dvs) H Q (E σ)) : wpAny (model X.prog X.w) X.A (PySem.call (.ref g) us) (EP X pins σ Q) X.xe s := by
  have r2 : Vals (vs ++ dvs) (us ++ ds) := r.append hd
  have hl : (us ++ ds).length = ps.length := by rw [← r2.length]; exact F.len _ _ _ _ h
  refine wpAny_call (codeAny_mono (F.run X.A X.stack s H ⟨us, []⟩ (us ++ ds) (vs ++ dvs) Q (E σ) hr I.env0 (hb s us I.kIn hl) r2 h) fun r s' hq => ?_)
  cases r with
  | error e => exact hx pins H s e s' I hq
  | ok fl =>
    cases fl with
    | ret u => exact I.after hq
    | next => exact False.elim hq
    | brk => exact False.elim hq
    | cont => exact False.elim hq
def tCallD (sp : Sp) (dvs : List V) (E : St → XK) (t : TA) : TE := fun σ H Q => t σ H fun vs H1 => sp (vs ++ dvs) H1 Q (E σ)
theorem pe_callD {k : Nat} {g : Addr} {fd : FuncData} {ps : List Str} {sp : Sp} {dvs : List V} {ds : List Value} {E : St → XK} {x : Str} {p : Pos} {t : TA}
    (F : FnOk X.prog X.w X.K X.mg X.base (L2.CX X.prog X.w) k g fd ps sp) (hr : Room k X.A) (hg : Gl X x) (hm : X.mg x = some (.ref g)) (hk : PySem.W.keepIn X.K (.ref g) = true) (hb : Binds X.K fd ps ds) (hd : Vals dvs ds) (hx : ∀ σ, PassesAt (L2.CX X.prog X.w) X σ (E σ))
    (ha : PA X (e :: es) t) (hdb : (x == ("__debug__" : Str)) = false) (he : starEach (e :: es) X.env = (false, eval e X.env) :: starEach es X.env) (hpl : (backTo pos (starEach es X.env)).any (·.1) = false) :
    PE X (.Call (.Name x p) (e :: es) [] pos) (tCallD sp dvs E t) := by
  refine ⟨fun pins s σ H Q I h => ?_⟩
  refine wpAny_Call_Name_kw (ld_glob I hg hm ?_ hdb)
  refine PySem.W.callWith_K (h₀ := X.base) I.ok.mod.kin hk (thn (ha.run pos pins s σ H _ I h) fun us s1 ⟨vs, H1, I1, r, q⟩ => ⟨I1.kIn, ?_⟩) he hpl
  exact run_fnD F hr hb hd (hx σ) I1 r q
theorem snd_call {k : Nat} {g : Addr} {fd : FuncData} {ps : List Str} {dfl : List PyData} {dvs : List V} {ds : List Value} {x : Str} {p : Pos} {run : List PyData → R PyData}
    (F : FnOk X.prog X.w X.K X.mg X.base (L2.CX X.prog X.w) k g fd ps (spD X.K cl run ps.length)) (hr : Room k X.A) (hg : Gl X x) (hm : X.mg x = some (.ref g)) (hk : PySem.W.keepIn X.K (.ref g) = true) (hb : Binds X.K fd ps ds) (hd : Vals dvs ds) (hdf : ∀ S, RpA X.K S dfl dvs)
    (tk : Takes X W) (ha : SndA X cl W (e :: es) f) (hdb : (x == ("__debug__" : Str)) = false) (hns : (e :: es).all notStar = true) (hn : ∀ ρ d, f ρ = .ok d → ∃ as, d = .tuple as ∧ as.length + dfl.length = ps.length) :
    Snd X cl W (.Call (.Name x p) (e :: es) [] pos) fun ρ => (f ρ).bind (unT fun xs => run (xs ++ dfl)) := by
  rw [List.all_cons, Bool.and_eq_true] at hns
  refine Snd.of (pe_imp (pe_callD F hr hg hm hk hb hd (fun σ => passAt tk σ) ha hdb (star_cons hns.1) (back_any hns.2)) fun σ H Q ⟨S, ρ, hS, hr', h⟩ => ?_) rfl
  simp only [post_bind] at h
  refine tda_one (P := fun d => f ρ = .ok d ∧ post (unT (fun xs => run (xs ++ dfl)) d) (fun d => ∀ v H' S', Grow H S H' S' → Rp X.K S' d v → Q v H') ((wh X cl W).E σ H)) hS hr' (post_monoR h (fun d e q => ⟨e, q⟩) fun _ z => z) (fun d p => ?_) fun as vs H' S' p g r => ?_
  · obtain ⟨as, e, _⟩ := hn ρ d p.1
    exact ⟨as, e⟩
  · obtain ⟨as', e, hl⟩ := hn ρ _ p.1
    cases e
    have rr := RpA.append r (hdf S')
    refine ⟨by rw [rr.length, List.length_append]; exact hl, S', _, g.in_, rr, post_mono p.2 (fun d q v H2 S2 g2 r2 => q v H2 S2 (g.trans g2) r2) fun c e H2 s2 => e H2 (g.h.trans s2)⟩

/-! ### built-ins -/
theorem snd_blt {bb : Blt} {p : Pos} (hc : X.calm = true) (hg : Gl X bb.nm) (hm : X.mg bb.nm = none) (ha : SndA X cl W (e :: es) f) (hns : (e :: es).all notStar = true) (hn : ∀ ρ d, f ρ = .ok d → ∃ as, d = .tuple as) :
    Snd X cl W (.Call (.Name bb.nm p) (e :: es) [] pos) fun ρ => (f ρ).bind (unT (bltD bb)) := by
  rw [List.all_cons, Bool.and_eq_true] at hns
  have key : PE X (.Call (.Name bb.nm p) (e :: es) [] pos) (tCB (rBl X.K bb) (tDA (wh X cl W) f)) := by
    have hb := Blt.boot bb
    have h1 : bb.nm ≠ "__name__" := by cases bb <;> decide
    have h2 : (bb.nm == ("__debug__" : Str)) = false := by cases bb <;> decide
    have hr := blr hc bb
    revert hr hb
    cases hq : bb.fn with
    | builtin id => exact fun hb hr => pe_callB hr hg hm hb ha h1 h2 (star_cons hns.1) (back_any hns.2)
    | type T => exact fun hb hr => pe_callTy hr hg hm hb ha h1 h2 (star_cons hns.1) (back_any hns.2)
    | _ => cases bb <;> cases hq
  refine Snd.of (pe_imp key fun σ H Q ⟨S, ρ, hS, hr', h⟩ => ?_) rfl
  simp only [post_bind] at h
  refine tda_one (P := fun d => f ρ = .ok d ∧ post (unT (bltD bb) d) (fun d => ∀ v H' S', Grow H S H' S' → Rp X.K S' d v → Q v H') ((wh X cl W).E σ H)) hS hr' (post_monoR h (fun d e q => ⟨e, q⟩) fun _ z => z) (fun d p => hn ρ d p.1) fun as vs H' S' p g r => ?_
  exact ⟨S', as, g.in_, r, quiet_post (quiet_bltD bb as) (post_mono p.2 (fun d q v H2 S2 g2 r2 => q v H2 S2 (g.trans g2) r2) fun _ z => z)⟩
theorem kit_some {K : PySem.W.Frag} {a b : String} {P : Bool → Prop} {E : Nat → Prop} (h : post (match kitB a b with
    | some k => R.ok k
    | none => R.bad) P E) : ∃ k, PySem.W.kitOne K (.type a) (.type b) = some k ∧ P k := by
  cases e : kitB a b with
  | none => rw [e] at h; exact h.elim
  | some k => rw [e] at h; exact ⟨k, kit_ty e, h⟩
theorem snd_isi {T : String} {x : Str} {p p2 : Pos} (hg : Gl X "isinstance") (hm : X.mg "isinstance" = none) (hgT : Gl X x) (hmT : X.mg x = none) (hvT : bootBuiltins x = some (.type T)) (hnT : x ≠ "__name__") (hdT : (x == ("__debug__" : Str)) = false)
    (ha : Snd X cl W a fa) (hns : notStar a = true) : Snd X cl W (.Call (.Name "isinstance" p) [a, .Name x p2] [] pos) fun ρ => (fa ρ).bind fun y => (isiD y T).bind fun k => .ok (.bool k) := by
  have ht : PE X (.Name x p2) (tC (.ty T)) := pe_bltn hgT hmT hvT rfl hnT hdT
  have hA : PA X [a, .Name x p2] (tCons (tD (wh X cl W) fa) (tCons (tC (.ty T)) tNil)) := pa_cons ha.pe (pa_cons ht pa_nil (star_cons rfl)) (star_cons hns)
  refine Snd.of (pe_imp (pe_callB call_isi hg hm boot_isinstance hA (by decide) (by decide) (star_cons hns) (back_any (by rfl))) fun σ H Q ⟨S, ρ, hS, hr, h⟩ => ?_) rfl
  simp only [post_bind] at h
  refine td_one hS hr h fun d v H' S' p g q => ?_
  have go : ∀ (t : String) (P : Bool → Prop) (E : Nat → Prop), post (match kitB t T with
    | some k => R.ok k
    | none => R.bad) P E → (∀ k, P k → Q (.bl k) H') → TyX X.K H' v (.type t) → rIsi X.K [v, .ty T] H' Q := fun t P E h hP ty => by
    obtain ⟨k, e1, e2⟩ := kit_some (K := X.K) h
    exact ⟨v, .ty T, .type t, .type T, k, rfl, .ty T, ty, e1, hP k e2⟩
  cases d <;> simp only [isiD] at p <;> try exact p.elim
  · cases rp_none q; exact go _ _ _ p (fun k z => z _ H' S' g (rpB _)) (.base .non)
  · cases rp_bool q; exact go _ _ _ p (fun k z => z _ H' S' g (rpB _)) (.base (.bl _))
  · cases rp_int q; exact go _ _ _ p (fun k z => z _ H' S' g (rpB _)) (.base (.int _))
  · cases rp_str q; exact go _ _ _ p (fun k z => z _ H' S' g (rpB _)) (.base (.str _))
  · simp only [Rp] at q
    obtain ⟨l, vs, rfl, hl, rl⟩ := q
    exact go _ _ _ p (fun k z => z _ H' S' g (rpB _)) (.base (.lst (g.in_ _ _ hl)))
  · simp only [Rp] at q
    obtain ⟨l, vs, rfl, hl, rl⟩ := q
    refine go _ _ _ p (fun k z => z _ H' S' g (rpB _)) ?_
    rcases hl with (hl | ⟨o, hl⟩) | ⟨o, its, n, hl, hc, _⟩
    · exact .base (.tup (g.in_ _ _ hl))
    · exact .fTuple (g.in_ _ _ hl)
    · exact .kTuple hl hc
end
end DL
namespace DL
open PySem PySem.Spec PyProof.Rows L2

/-! ### what is walked, over data -/
/-- J yields just the data ds, while what is in S stays -/
structure Yl (K : PySem.W.Frag) (J : It) (S : Hp) (ds : List PyData) : Prop where
  go : ∀ H i, Sub S H → i < ds.length → J.go i H
  stop : ∀ H, Sub S H → J.stop ds.length H
  yld : ∀ H S1 i x H' d, Sub S S1 → Sub S1 H → ds[i]? = some d → J.yld i H x H' → ∃ S', Grow H S1 H' S' ∧ Rp K S' d x
def tDI (w : Wh) (f : Env → R PyData) : TI := fun σ H Q => ∃ S ρ, Sub S H ∧ ShR w.K S σ ρ ∧
  post (f ρ) (fun d => match d with
    | .list ds => ∀ J H' S', Grow H S H' S' → Yl w.K J S' ds → Q J H'
    | _ => False) (w.E σ H)
theorem pi_imp {X : Cx} {tg e : Expr} {t t' : TI} (h : PI X tg e t) (hi : ∀ σ H Q, t' σ H Q → t σ H Q) : PI X tg e t' := ⟨fun pins s σ H Q I q => h.run pins s σ H Q I (hi σ H Q q)⟩
section
variable {K : PySem.W.Frag} {S : Hp}
theorem yl_list {a : Addr} {vs : List V} {ds : List PyData} (ha : S a = some (.lst vs)) (hr : RpA K S ds vs) (huniq : ∀ H, Sub S H → ∀ xs, SqL K H a xs → True) : Yl K (Itl K a) S ds where
  go := fun H i hS hi => by
    have hl := hr.length
    exact ⟨vs, vs[i]'(by omega), SqL.ofS (hS _ _ ha), List.getElem?_eq_getElem _⟩
  stop := fun H hS => ⟨vs, SqL.ofS (hS _ _ ha), by rw [hr.length]; exact Nat.le_refl _⟩
  yld := fun H S1 i x H' d h1 h2 hd ⟨e, hx⟩ => by
    subst e
    obtain ⟨v, hv, hrv⟩ := hr.get hd
    have q := hx vs (SqL.ofS ((h1.trans h2) _ _ ha))
    rw [hv] at q
    cases q
    exact ⟨S1, Grow.refl h2, Rp.sub h1 d _ hrv⟩
theorem yl_tup {a : Addr} {vs : List V} {ds : List PyData} (ha : SqT K S a vs) (hr : RpA K S ds vs) : Yl K (Itt K a) S ds where
  go := fun H i hS hi => by
    have hl := hr.length
    exact ⟨vs, vs[i]'(by omega), SqT.sub hS ha, List.getElem?_eq_getElem _⟩
  stop := fun H hS => ⟨vs, SqT.sub hS ha, by rw [hr.length]; exact Nat.le_refl _⟩
  yld := fun H S1 i x H' d h1 h2 hd ⟨e, hx⟩ => by
    subst e
    obtain ⟨v, hv, hrv⟩ := hr.get hd
    have q := hx vs (SqT.sub (h1.trans h2) ha)
    rw [hv] at q
    cases q
    exact ⟨S1, Grow.refl h2, Rp.sub h1 d _ hrv⟩
theorem rng_length (lo : Int) (n : Nat) : (rng lo n).length = n := by unfold rng; rw [List.length_map, List.length_range]
theorem rng_get {lo : Int} {n i : Nat} {d : PyData} (h : (rng lo n)[i]? = some d) : d = .int (lo + (i : Nat)) := by
  unfold rng at h
  rw [List.getElem?_map] at h
  by_cases c : i < n
  · rw [List.getElem?_range c] at h
    exact (Option.some.inj h).symm
  · rw [List.getElem?_eq_none (by rw [List.length_range]; omega)] at h
    cases h
theorem yl_rng {lo : Int} {n : Nat} : Yl K (Itr lo n) S (rng lo n) where
  go := fun H i hS hi => by rw [rng_length] at hi; exact hi
  stop := fun H hS => by rw [rng_length]; exact Nat.le_refl _
  yld := fun H S1 i x H' d h1 h2 hd ⟨e, hx⟩ => by
    subst e hx
    rw [rng_get hd]
    exact ⟨S1, Grow.refl h2, rpI _⟩
theorem yl_rngC {lo c : Int} {n : Nat} : Yl K (Itc lo c n) S ((List.range n).map fun k => PyData.int (lo + (k : Nat) * c)) where
  go := fun H i hS hi => by rw [List.length_map, List.length_range] at hi; exact hi
  stop := fun H hS => by rw [List.length_map, List.length_range]; exact Nat.le_refl _
  yld := fun H S1 i x H' d h1 h2 hd ⟨e, hx⟩ => by
    subst e hx
    refine ⟨S1, Grow.refl h2, ?_⟩
    rw [List.getElem?_map] at hd
    by_cases q : i < n
    · rw [List.getElem?_range q] at hd
      cases hd
      exact rpI _
    · rw [List.getElem?_eq_none (by rw [List.length_range]; omega)] at hd
      cases hd
end
section
variable {X : Cx} {cl : Nat → Value} {W : WX} {e a b c tg : Expr} {es : List Expr} {f fa fb fc : Env → R PyData} {pos : Pos} {call : Nat → List PyData → R PyData}
theorem at_list {pins : List (Addr × Obj)} {σ : St} {H1 : Hp} {s1 : Shared} {Rr : It → Hp → Prop} {l : Addr} {vs : List V} (I1 : Inv X pins σ H1 s1) (hq : SqL X.K H1 l vs) (q : Rr (Itl X.K l) H1) :
    wpAny (model X.prog X.w) X.A (pyIter (.ref l)) (PIE X pins σ tg Rr) X.xe s1 := by
  obtain ⟨its, rv, p, hz⟩ := I1.list hq
  refine wpAny_pyIter_list p.isList ?_
  refine ⟨s1.heap.objs.size, [s1.heap.objs.size], _, _, H1, rfl, I1.kept (t' := s1.toks) fun b o e => Heap.get?_push_of_some _ e, turn_list l _, ⟨_, Heap.get?_push_size _ rfl, rfl, rfl⟩, fun b hb => ?_, q⟩
  have e : b = s1.heap.objs.size := by simpa using hb
  subst e
  exact I1.fpOk (Nat.le_refl _) (I1.hok.fresh (Nat.le_refl _))
theorem at_tup {pins : List (Addr × Obj)} {σ : St} {H1 : Hp} {s1 : Shared} {Rr : It → Hp → Prop} {l : Addr} {vs : List V} (I1 : Inv X pins σ H1 s1) (hq : SqT X.K H1 l vs) (q : Rr (Itt X.K l) H1) :
    wpAny (model X.prog X.w) X.A (pyIter (.ref l)) (PIE X pins σ tg Rr) X.xe s1 := by
  obtain ⟨its, rv, p, hz⟩ := I1.tuple hq
  refine wpAny_pyIter_tuple (show s1.heap.IsTuple l its.toArray from p) ?_
  refine ⟨s1.heap.objs.size, [s1.heap.objs.size], _, _, H1, rfl, I1.kept (t' := s1.toks) fun b o e => Heap.get?_push_of_some _ e, turn_tuple l _, ⟨_, Heap.get?_push_size _ rfl, rfl, rfl⟩, fun b hb => ?_, q⟩
  have e : b = s1.heap.objs.size := by simpa using hb
  subst e
  exact I1.fpOk (Nat.le_refl _) (I1.hok.fresh (Nat.le_refl _))
abbrev SndI (X : Cx) (cl : Nat → Value) (W : WX) (tg e : Expr) (f : Env → R PyData) : Prop := PI X tg e (tDI (wh X cl W) f)
theorem sndI_seq (he : Snd X cl W e f) : SndI X cl W tg e fun ρ => (f ρ).bind fun x => (seqOf x).bind fun xs => .ok (.list xs) := by
  refine ⟨fun pins s σ H Rr I ⟨S, ρ, hS, hr, h⟩ => ?_⟩
  simp only [post_bind] at h
  refine thn (he.pe.run pins s σ H (fun v H1 => ∃ S1 d, Grow H S H1 S1 ∧ Rp X.K S1 d v ∧ post (seqOf d) (fun xs => ∀ J H' S', Grow H S H' S' → Yl X.K J S' xs → Rr J H') ((wh X cl W).E σ H)) I
    ⟨S, ρ, hS, hr, post_mono h (fun d p v H' S' g q => ⟨S', d, g, q, p⟩) fun _ z => z⟩) fun v s1 ⟨x, H1, I1, r1, S1, d, g, q, p⟩ => ?_
  cases d <;> simp only [seqOf] at p <;> try exact p.elim
  · simp only [Rp] at q
    obtain ⟨l, vs, rfl, hl, rl⟩ := q
    cases r1
    exact at_list I1 (SqL.ofS (g.in_ _ _ hl)) (p _ _ _ g (yl_list hl rl fun _ _ _ _ => trivial))
  · simp only [Rp] at q
    obtain ⟨l, vs, rfl, hl, rl⟩ := q
    cases r1
    exact at_tup I1 (SqT.sub g.in_ hl) (p _ _ _ g (yl_tup hl rl))
theorem bnd_ok {i : Int} (h : bnd i = true) : -(2 ^ 62) ≤ i ∧ i < 2 ^ 62 := by
  have h := Nat.blt_eq.mp h
  have e : (2 : Int) ^ 62 = 4611686018427387904 := by decide
  rw [e]
  omega
theorem sndI_range1 {p : Pos} (hg : Gl X "range") (hm : X.mg "range" = none) (ha : Snd X cl W a f) (hs : notStar a = true) : SndI X cl W tg (.Call (.Name "range" p) [a] [] pos) fun ρ => (f ρ).bind r1D := by
  refine pi_imp (pi_range1 hg hm (pa_cons ha.pe pa_nil (star_cons hs)) (by rw [star_cons hs]; rfl)) fun σ H Q ⟨S, ρ, hS, hr, h⟩ => ?_
  simp only [post_bind] at h
  refine td_one hS hr h fun d v H' S' p g q => ?_
  cases d <;> simp only [r1D] at p <;> try exact p.elim
  cases rp_int q
  obtain ⟨hz, p⟩ := post_if p
  obtain ⟨h1, h2⟩ := bnd_ok hz
  exact ⟨_, rfl, h1, h2, p _ _ _ g yl_rng⟩
theorem sndI_range2 {p : Pos} (hg : Gl X "range") (hm : X.mg "range" = none) (ha : Snd X cl W a fa) (hb : Snd X cl W b fb) (hs : notStar a = true) (hs2 : notStar b = true) : SndI X cl W tg (.Call (.Name "range" p) [a, b] [] pos) fun ρ => (fa ρ).bind fun x => (fb ρ).bind (r2D x) := by
  refine pi_imp (pi_range2 hg hm (pa_cons ha.pe (pa_cons hb.pe pa_nil (star_cons hs2)) (star_cons hs)) (by rw [star_cons hs, star_cons hs2]; rfl) (by rw [star_cons hs2]; rfl)) fun σ H Q ⟨S, ρ, hS, hr, h⟩ => ?_
  simp only [post_bind] at h
  refine td_one hS hr h fun x vx H1 S1 p1 g1 q1 => td_one g1.in_ (hr.sub g1.s) (post_up p1 g1.h fun _ z => z) fun y vy H' S' p g q2 => ?_
  cases x <;> cases y <;> simp only [r2D] at p <;> try exact p.elim
  cases rp_int q1
  cases rp_int q2
  obtain ⟨hz, p⟩ := post_if p
  rw [Bool.and_eq_true] at hz
  obtain ⟨h1, h2⟩ := bnd_ok hz.1
  obtain ⟨h3, h4⟩ := bnd_ok hz.2
  exact ⟨_, _, rfl, ⟨h1, h2, h3, h4⟩, p _ _ _ (g1.trans g) yl_rng⟩

theorem sndI_range3 {p : Pos} (hg : Gl X "range") (hm : X.mg "range" = none) (ha : Snd X cl W a fa) (hb : Snd X cl W b fb) (hc : Snd X cl W c fc) (hs : notStar a = true) (hs2 : notStar b = true) (hs3 : notStar c = true) : SndI X cl W tg (.Call (.Name "range" p) [a, b, c] [] pos) fun ρ => (fa ρ).bind fun x => (fb ρ).bind fun y => (fc ρ).bind (r3D x y) := by
  refine pi_imp (pi_range3 hg hm (pa_cons ha.pe (pa_cons hb.pe (pa_cons hc.pe pa_nil (star_cons hs3)) (star_cons hs2)) (star_cons hs)) (star_cons hs) (back_any (by simp [hs2, hs3]))) fun σ H Q ⟨S, ρ, hS, hr, h⟩ => ?_
  simp only [post_bind] at h
  refine td_one hS hr h fun x vx H1 S1 p1 g1 q1 => td_one g1.in_ (hr.sub g1.s) (post_up p1 g1.h fun _ z => z) fun y vy H2 S2 p2 g2 q2 => td_one g2.in_ ((hr.sub g1.s).sub g2.s) (post_up p2 (g1.trans g2).h fun _ z => z) fun z vz H' S' p g q3 => ?_
  unfold r3D at p
  split at p
  · cases rp_int q1
    cases rp_int q2
    cases rp_int q3
    obtain ⟨⟨z1, z2, z3, z4⟩, p⟩ := post_if p
    exact ⟨_, _, _, _, rfl, ⟨z1, z2, z3, (Int.toNat_of_nonneg z4).symm⟩, p _ _ _ ((g1.trans g2).trans g) yl_rngC⟩
  · exact p.elim

/-! ### targets -/
def setAll : List Nat → List V → St → St
  | i :: is, v :: vs, σ => setAll is vs (σ.set i (some v))
  | _, _, σ => σ
def gT (K : PySem.W.Frag) (t : Tg) : TG := fun v σ H Q => match t with
  | .one i => Q (σ.set i (some v)) H
  | .many is => ∃ a xs, v = .ref a ∧ SqT K H a xs ∧ xs.length = is.length ∧ Q (setAll is xs σ) H
def gA (is : List Nat) : TGs := fun vs σ H Q => vs.length = is.length ∧ Q (setAll is vs σ) H
theorem pg_imp {t t' : TG} (h : PG X e t) (hi : ∀ v σ H Q, t' v σ H Q → t v σ H Q) : PG X e t' := ⟨fun pins s σ H v u Q I r q => h.run pins s σ H v u Q I r (hi v σ H Q q)⟩
theorem pgs_imp {t t' : TGs} (h : PGs X es t) (hi : ∀ v σ H Q, t' v σ H Q → t v σ H Q) : PGs X es t' := ⟨fun pins s σ H v u Q I r q => h.run pins s σ H v u Q I r (hi v σ H Q q)⟩
/-- plain names -/
def namesOf : List Expr → Option (List Str)
  | [] => some []
  | .Name x _ :: r => (match namesOf r with
    | some xs => some (x :: xs)
    | none => none)
  | _ :: _ => none
/-- the names' places -/
def ixAll (N : List Str) : List Str → List Nat → Bool
  | [], [] => true
  | x :: xs, i :: is => decide (N[i]? = some x) && ixAll N xs is
  | _, _ => false
theorem names_each {env : PySem.Env} : ∀ {es : List Expr} {xs : List Str}, namesOf es = some xs → (assignEach es env).length = es.length ∧ (assignEach es env).findIdx? (·.1) = none ∧ xs.length = es.length
  | [], xs, h => by
    simp only [namesOf, Option.some.injEq] at h
    subst h
    exact ⟨rfl, rfl, rfl⟩
  | e :: es, xs, h => by
    cases e <;> simp only [namesOf] at h <;> try cases h
    rename_i x p
    cases q : namesOf es with
    | none => rw [q] at h; cases h
    | some ys =>
      rw [q] at h
      simp only [Option.some.injEq] at h
      subst h
      obtain ⟨h1, h2, h3⟩ := names_each (env := env) q
      refine ⟨?_, ?_, by rw [List.length_cons, List.length_cons, h3]⟩
      · show ((false, _) :: assignEach es env).length = _
        rw [List.length_cons, List.length_cons, h1]
      · show ((false, assign (.Name x p) env) :: assignEach es env).findIdx? (·.1) = none
        rw [List.findIdx?_cons, if_neg (by simp), h2]
        rfl
theorem pgs_names (hN : X.N.Nodup) : ∀ {es : List Expr} {xs : List Str} {is : List Nat}, namesOf es = some xs → ixAll X.N xs is = true → (∀ x ∈ xs, Loc X.env.scope x ∧ (X.fn x = true ∨ X.env.scope.names.lookup x = some .local)) → PGs X es (gA is)
  | [], xs, is, h, hi, hl => by
    simp only [namesOf, Option.some.injEq] at h
    subst h
    cases is with
    | nil =>
      refine pgs_imp pgs_nil fun v σ H Q ⟨h1, h2⟩ => ?_
      have e := List.length_eq_zero_iff.mp h1
      subst e
      exact ⟨rfl, h2⟩
    | cons => simp [ixAll] at hi
  | e :: es, xs, is, h, hi, hl => by
    cases e <;> simp only [namesOf] at h <;> try cases h
    rename_i x p
    cases q : namesOf es with
    | none => rw [q] at h; cases h
    | some ys =>
      rw [q] at h
      simp only [Option.some.injEq] at h
      subst h
      cases is with
      | nil => simp [ixAll] at hi
      | cons i is =>
        simp only [ixAll, Bool.and_eq_true, decide_eq_true_eq] at hi
        have hx := hl x List.mem_cons_self
        refine pgs_imp (pgs_cons (pg_name hN hi.1 hx.1 hx.2) (pgs_names hN q hi.2 fun y hy => hl y (List.mem_cons_of_mem _ hy)) rfl) fun v σ H Q ⟨h1, h2⟩ => ?_
        cases v with
        | nil => simp at h1
        | cons v vs => exact ⟨v, vs, rfl, by simpa using h1, h2⟩
theorem pg_many {k : Nat} {es : List Expr} {xs : List Str} {is : List Nat} (hc : X.calm = true) (hN : X.N.Nodup) (h : namesOf es = some xs) (hi : ixAll X.N xs is = true) (hlen : is.length = es.length) (hl : ∀ x ∈ xs, Loc X.env.scope x ∧ (X.fn x = true ∨ X.env.scope.names.lookup x = some .local)) :
    PG X (.Tuple es k pos) (gT X.K (.many is)) := by
  obtain ⟨h1, h2, h3⟩ := names_each (env := X.env) h
  refine pg_imp (pg_tup (n := es.length) hc (pgs_names hN h hi hl) h1 h2) fun v σ H Q ⟨a, xs, e1, e2, e3, q⟩ => ⟨a, xs, e1, e2, by rw [e3, hlen], e3, q⟩
theorem pg_oneT {i : Nat} {x : Str} (hN : X.N.Nodup) (hi : X.N[i]? = some x) (hx : Loc X.env.scope x) (hf : X.fn x = true ∨ X.env.scope.names.lookup x = some .local) : PG X (.Name x pos) (gT X.K (.one i)) := pg_name hN hi hx hf
theorem shr_set {K : PySem.W.Frag} {S : Hp} {σ : St} {ρ : Env} {i : Nat} {d : PyData} {v : V} (h : ShR K S σ ρ) (hl : i < σ.length) (hr : Rp K S d v) : ShR K S (σ.set i (some v)) (ρ.set i (.sh d)) := by
  intro j s d' e1 e2
  by_cases c : i = j
  · subst c
    by_cases hρ : i < ρ.length
    · rw [List.getElem?_set_self hρ] at e1
      cases e1
      cases e2
      exact ⟨v, List.getElem?_set_self hl, hr⟩
    · rw [List.getElem?_eq_none (by rw [List.length_set]; omega)] at e1
      cases e1
  · rw [List.getElem?_set_ne c] at e1 ⊢
    exact h j s d' e1 e2
theorem setAll_length : ∀ (is : List Nat) (vs : List V) (σ : St), (setAll is vs σ).length = σ.length
  | [], _, _ => by simp [setAll]
  | _ :: _, [], _ => by simp [setAll]
  | i :: is, v :: vs, σ => by simp only [setAll]; rw [setAll_length is vs]; simp
theorem shr_many {K : PySem.W.Frag} {S : Hp} : ∀ {is : List Nat} {ds : List PyData} {vs : List V} {σ : St} {ρ ρ' : Env}, ShR K S σ ρ → (∀ i ∈ is, i < σ.length) → RpA K S ds vs → bindMany is ds ρ = some ρ' → ShR K S (setAll is vs σ) ρ'
  | [], [], vs, σ, ρ, ρ', h, _, _, e => by
    simp only [bindMany, Option.some.injEq] at e
    subst e
    simpa only [setAll] using h
  | [], _ :: _, _, _, _, _, _, _, _, e => by simp [bindMany] at e
  | _ :: _, [], _, _, _, _, _, _, _, e => by simp [bindMany] at e
  | i :: is, d :: ds, vs, σ, ρ, ρ', h, hl, hr, e => by
    simp only [RpA] at hr
    obtain ⟨v, r, e1, q1, q2⟩ := hr
    subst e1
    simp only [bindMany] at e
    simp only [setAll]
    exact shr_many (shr_set h (hl i List.mem_cons_self) q1) (fun j hj => by rw [List.length_set]; exact hl j (List.mem_cons_of_mem _ hj)) q2 e
def Tg.all : Tg → List Nat
  | .one i => [i]
  | .many is => is
theorem bindMany_length : ∀ {is : List Nat} {ds : List PyData} {ρ ρ' : Env}, bindMany is ds ρ = some ρ' → ds.length = is.length
  | [], [], _, _, _ => rfl
  | [], _ :: _, _, _, e => by simp [bindMany] at e
  | _ :: _, [], _, _, e => by simp [bindMany] at e
  | i :: is, d :: ds, ρ, ρ', e => by
    simp only [bindMany] at e
    rw [List.length_cons, List.length_cons, bindMany_length e]
/-- a target takes a datum -/
theorem gT_ok {K : PySem.W.Frag} {S H : Hp} {t : Tg} {d : PyData} {v : V} {σ : St} {ρ ρ' : Env} {Q : St → Hp → Prop} (hS : Sub S H) (h : ShR K S σ ρ) (hl : ∀ i ∈ t.all, i < σ.length) (hr : Rp K S d v) (e : bindT t d ρ = some ρ')
    (hQ : ∀ σ', ShR K S σ' ρ' → (∃ vs, σ' = setAll t.all vs σ) → Q σ' H) : gT K t v σ H Q := by
  cases t with
  | one i =>
    simp only [bindT, Option.some.injEq] at e
    subst e
    exact hQ _ (shr_set h (hl i (by simp [Tg.all])) hr) ⟨[v], rfl⟩
  | many is =>
    cases d <;> simp only [bindT] at e <;> try cases e
    rename_i ds
    simp only [Rp] at hr
    obtain ⟨a, vs, rfl, ha, ra⟩ := hr
    exact ⟨a, vs, rfl, SqT.sub hS ha, by rw [ra.length, bindMany_length e], hQ _ (shr_many h hl ra e) ⟨vs, rfl⟩⟩
end
end DL
namespace DL
open PySem PySem.Spec PyProof.Rows L2

theorem wipeE_get : ∀ {vs : List Nat} {ρ : Env} {i : Nat} {s : Sl}, (wipeE ρ vs)[i]? = some s → s.val ≠ none → i ∉ vs ∧ ρ[i]? = some s
  | [], ρ, i, s, h, _ => ⟨by simp, h⟩
  | v :: vs, ρ, i, s, h, hs => by
    unfold wipeE at h
    by_cases c : v = i
    · subst c
      by_cases hl : v < (wipeE ρ vs).length
      · rw [List.getElem?_set_self hl] at h
        cases h
        exact absurd rfl hs
      · rw [List.getElem?_eq_none (by rw [List.length_set]; omega)] at h
        cases h
    · rw [List.getElem?_set_ne c] at h
      obtain ⟨h1, h2⟩ := wipeE_get h hs
      refine ⟨fun m => ?_, h2⟩
      rcases List.mem_cons.mp m with e | m
      · exact c e.symm
      · exact h1 m
theorem wipe_outD {σ : St} {i : Nat} : ∀ {vs : List Nat}, i ∉ vs → (wipe σ vs)[i]? = σ[i]?
  | [], _ => rfl
  | v :: vs, h => by
    unfold wipe
    rw [List.getElem?_set_ne (fun e => h (by simp [e])), wipe_outD fun m => h (List.mem_cons_of_mem _ m)]
theorem shr_wipe {K : PySem.W.Frag} {S : Hp} {σ : St} {ρ : Env} (h : ShR K S σ ρ) (vs : List Nat) : ShR K S (wipe σ vs) (wipeE ρ vs) := by
  intro i s d e1 e2
  obtain ⟨h1, h2⟩ := wipeE_get e1 (by rw [e2]; simp)
  obtain ⟨v, q1, q2⟩ := h i s d h2 e2
  exact ⟨v, by rw [wipe_outD h1]; exact q1, q2⟩
theorem wipe_set {σ : St} {i : Nat} {x : Option V} : ∀ {vs : List Nat}, i ∈ vs → wipe (σ.set i x) vs = wipe σ vs
  | v :: vs, h => by
    unfold wipe
    by_cases c : i ∈ vs
    · rw [wipe_set c]
    · have e : i = v := by
        rcases List.mem_cons.mp h with e | m
        · exact e
        · exact absurd m c
      subst e
      have key : ∀ {us : List Nat}, i ∉ us → (wipe (σ.set i x) us) = (wipe σ us).set i x := by
        intro us
        induction us with
        | nil => intro _; rfl
        | cons u us ih =>
          intro hu
          unfold wipe
          rw [ih fun m => hu (List.mem_cons_of_mem _ m)]
          rw [List.set_comm _ _ (fun e => hu (by simp [e]))]
      rw [key c]
      simp
theorem wipe_setAll : ∀ {is : List Nat} {xs : List V} {σ : St} {vs : List Nat}, (∀ i ∈ is, i ∈ vs) → wipe (setAll is xs σ) vs = wipe σ vs
  | [], _, _, _, _ => by simp [setAll]
  | _ :: _, [], _, _, _ => by simp [setAll]
  | i :: is, x :: xs, σ, vs, h => by
    simp only [setAll]
    rw [wipe_setAll fun j hj => h j (List.mem_cons_of_mem _ hj), wipe_set (h i List.mem_cons_self)]

section
variable {tg : Tg} {fc fe : Env → R PyData} {ρ : Env}
theorem lcGo_nil {ys : List PyData} (h : lcGo tg fc fe ρ [] = .ok ys) : ys = [] := by
  simp only [lcGo, R.ok.injEq] at h
  exact h.symm
theorem lcGo_cons {d : PyData} {ds ys : List PyData} (h : lcGo tg fc fe ρ (d :: ds) = .ok ys) : ∃ ρ', bindT tg d ρ = some ρ' ∧
    (((fc ρ').bind truth = .ok true ∧ ∃ y ys', fe ρ' = .ok y ∧ lcGo tg fc fe ρ ds = .ok ys' ∧ ys = y :: ys') ∨ ((fc ρ').bind truth = .ok false ∧ lcGo tg fc fe ρ ds = .ok ys)) := by
  simp only [lcGo] at h
  cases e : bindT tg d ρ with
  | none => rw [e] at h; cases h
  | some ρ' =>
    rw [e] at h
    dsimp only at h
    refine ⟨ρ', rfl, ?_⟩
    cases e2 : (fc ρ').bind truth with
    | ok b =>
      rw [e2] at h
      cases b with
      | true =>
        dsimp only at h
        cases e3 : fe ρ' with
        | ok y =>
          rw [e3] at h
          dsimp only at h
          cases e4 : lcGo tg fc fe ρ ds with
          | ok ys' =>
            rw [e4] at h
            cases h
            exact .inl ⟨rfl, y, ys', rfl, rfl, rfl⟩
          | ex c => rw [e4] at h; cases h
          | bad => rw [e4] at h; cases h
        | ex c => rw [e3] at h; cases h
        | bad => rw [e3] at h; cases h
      | false => exact .inr ⟨rfl, h⟩
    | ex c => rw [e2] at h; cases h
    | bad => rw [e2] at h; cases h
end

/-- nothing is let out -/
abbrev noW : WX := fun _ _ _ _ => False
theorem pts_imp {X : Cx} {ifs : List Expr} {t t' : TT} (h : PTs X ifs t) (hi : ∀ σ H Q, t' σ H Q → t σ H Q) : PTs X ifs t' := ⟨fun pins s σ H Q I q => h.run pins s σ H Q I (hi σ H Q q)⟩
abbrev SndT (X : Cx) (cl : Nat → Value) (W : WX) (ifs : List Expr) (f : Env → R PyData) : Prop := PTs X ifs (tDT (wh X cl W) fun ρ => (f ρ).bind truth)
section
variable {X : Cx} {cl : Nat → Value} {W : WX} {e a b c : Expr} {es : List Expr} {f fa fb fc : Env → R PyData} {pos : Pos}
theorem sndT_nil : SndT X cl W [] fun _ => .ok (.bool true) := pts_imp pts_nil fun σ H Q ⟨S, ρ, hS, hr, h⟩ => h H S (Grow.refl hS)
theorem sndT_one (h : Snd X cl W a f) : SndT X cl W [a] f := pts_one h.pt

/-- the same of an expression that gives a new list: its place is new, and it does not stay yet -/
def tDF (w : Wh) (f : Env → R PyData) : TE := fun σ H Q => ∃ S ρ, Sub S H ∧ ShR w.K S σ ρ ∧
  post (f ρ) (fun d => match d with
    | .list ds => ∀ p vs H' S', Grow H S H' S' → H' p = some (.lst vs) → H p = none → S' p = none → RpA w.K S' ds vs → Q (.ref p) H'
    | _ => False) (w.E σ H)
theorem Grow.stay {H S H' S' : Hp} {p : Addr} {o : HO} (g : Grow H S H' S') (e : H' p = some o) (n : H p = none) (s : S' p = none) : Grow H S H' (upd S' p o) := by
  refine ⟨g.h, g.s.trans (sub_upd s), fun b u q => ?_, fun b e1 q => ?_⟩
  · by_cases c : b = p
    · subst c; rw [upd_same] at q; cases q; exact e
    · rw [upd_ne c] at q; exact g.in_ _ _ q
  · by_cases c : b = p
    · subst c; exact n
    · rw [upd_ne c] at q; exact g.new b e1 q
theorem td_tdf {w : Wh} {f : Env → R PyData} {σ : St} {H : Hp} {Q : VK} (hf : ∀ ρ d, f ρ = .ok d → ∃ ds, d = .list ds) (h : tD w f σ H Q) : tDF w f σ H Q := by
  obtain ⟨S, ρ, hS, hr, h⟩ := h
  refine ⟨S, ρ, hS, hr, post_monoR h (fun d e p => ?_) fun _ z => z⟩
  obtain ⟨ds, rfl⟩ := hf ρ d e
  exact fun q vs H' S' g e1 n s r => p _ _ _ (g.stay e1 n s) (Rp.lst upd_same (r.sub (sub_upd s)))
/-- the turns of a comprehension, over data -/
theorem lc_turns {t : Tg} {own : List Nat} {fc fe : Env → R PyData} {σ : St} {S H : Hp} {ρ : Env} {Q : VK} {g : TG} {tt : TT} {te : TE} {J : It} {H1 S1 : Hp} {xs ys : List PyData}
    (hg : g = gT X.K t) (htt : tt = tDT ⟨X.K, cl, noW⟩ fun ρ => (fc ρ).bind truth) (hte : te = tD ⟨X.K, cl, noW⟩ fe) (hσ : ∀ i ∈ own, i < σ.length) (hown : ∀ i ∈ t.all, i ∈ own)
    (hr : ShR X.K S σ ρ) (g1 : Grow H S H1 S1) (hJ : Yl X.K J S1 xs) (hz : xs.length ≤ big) (hgo : lcGo t fc fe (wipeE ρ own) xs = .ok ys) (hQ : ∀ p vs H' S', Grow H S H' S' → H' p = some (.lst vs) → H p = none → S' p = none → RpA X.K S' ys vs → Q (.ref p) H') :
    ∀ D, H1 D = none → ∃ Wv : Nat → Nat → Hp → Prop, (∃ m, Wv 0 m (upd H1 D (.lst []))) ∧ ∀ i m H, Wv i m H →
      (J.stop i H ∧ Q (.ref D) H) ∨ (J.go i H ∧ ∃ Nx : Hp → Prop, (∀ H', Nx H' → ∃ m', m' < m ∧ Wv (i + 1) m' H') ∧ ∀ x H', J.yld i H x H' → g x (wipe σ own) H' fun σ2 H2 => wipe σ2 own = wipe σ own ∧ tt σ2 H2 fun b H3 =>
        if b = true then te σ2 H3 fun y H4 => ∃ acc, H4 D = some (.lst acc) ∧ acc.length < sizeLine ∧ Nx (upd H4 D (.lst (acc ++ [y]))) else Nx H3) := by
  subst hg htt hte
  intro D hD
  -- the list at D, and a part that stays beside it
  have inv : ∃ Wv : Nat → Nat → Hp → Prop, Wv = fun i m Hc => i ≤ xs.length ∧ m = xs.length - i ∧ ∃ Sc accD accV ys', Sub Sc Hc ∧ Sub S1 Sc ∧ Sub H1 Hc ∧ (∀ b, S1 b = none → Sc b ≠ none → H1 b = none) ∧ Hc D = some (.lst accV) ∧ Sc D = none ∧ RpA X.K Sc accD accV ∧ accD.length ≤ i ∧
      lcGo t fc fe (wipeE ρ own) (xs.drop i) = .ok ys' ∧ accD ++ ys' = ys := ⟨_, rfl⟩
  obtain ⟨Wv, hW⟩ := inv
  refine ⟨Wv, ⟨xs.length, ?_⟩, fun i m Hc hw => ?_⟩
  · rw [hW]
    refine ⟨Nat.zero_le _, rfl, S1, [], [], ys, g1.in_.trans (sub_upd hD), Sub.refl _, sub_upd hD, fun b e n => absurd e n, upd_same, g1.in_.none hD, RpA.nil, Nat.le_refl _, hgo, rfl⟩
  · rw [hW] at hw
    obtain ⟨hi, rfl, Sc, accD, accV, ys', hSc, h1c, hHc, hnew, eD, sD, ra, hal, hrest, hsum⟩ := hw
    have hS1c : Sub S1 Hc := h1c.trans hSc
    by_cases hlt : i < xs.length
    · refine .inr ⟨hJ.go Hc i hS1c hlt, Wv (i + 1) (xs.length - (i + 1)), fun H' w => ⟨_, by omega, w⟩, fun x H' hy => ?_⟩
      have hxi : xs[i]? = some xs[i] := List.getElem?_eq_getElem hlt
      rw [List.drop_eq_getElem_cons hlt] at hrest
      obtain ⟨S2, g2, hrx⟩ := hJ.yld Hc Sc i x H' xs[i] h1c hSc hxi hy
      obtain ⟨ρ', hb, hcase⟩ := lcGo_cons hrest
      have hrw : ShR X.K S2 (wipe σ own) (wipeE ρ own) := (((shr_wipe hr own).sub g1.s).sub h1c).sub g2.s
      refine gT_ok g2.in_ hrw (fun j hj => by rw [wipe_length]; exact hσ j (hown j hj)) hrx hb fun σ' hr' ⟨vs, eσ⟩ => ?_
      have wσ : wipe σ' own = wipe σ own := by
        rw [eσ, wipe_setAll hown]
        have : ∀ us : List Nat, (∀ u ∈ us, u ∈ own) → wipe (wipe σ us) own = wipe σ own := by
          intro us
          induction us with
          | nil => intro _; rfl
          | cons u us ih =>
            intro hu
            show wipe ((wipe σ us).set u none) own = _
            rw [wipe_set (hu u List.mem_cons_self), ih fun v hv => hu v (List.mem_cons_of_mem _ hv)]
        exact this own fun _ h => h
      refine ⟨wσ, ?_⟩
      -- D is a list of one's own: what is new is not it
      have keepD : ∀ {Ha Sa Hb Sb : Hp}, Grow Ha Sa Hb Sb → Ha D = some (.lst accV) → Sa D = none → Hb D = some (.lst accV) ∧ Sb D = none := fun {Ha Sa Hb Sb} gg e1 e2 => by
        refine ⟨gg.h _ _ e1, ?_⟩
        cases q : Sb D with
        | none => rfl
        | some o =>
          have := gg.new D e2 (by rw [q]; simp)
          rw [e1] at this; cases this
      obtain ⟨eD2, sD2⟩ := keepD g2 eD sD
      rcases hcase with ⟨hc, y, ys2, hye, hr2, esum⟩ | ⟨hc, hr2⟩
      · refine ⟨S2, ρ', g2.in_, hr', ?_⟩
        show post ((fc ρ').bind truth) _ _
        rw [hc]
        intro H3 S3 g3
        show (if true = true then _ else _)
        rw [if_pos rfl]
        obtain ⟨eD3, sD3⟩ := keepD g3 eD2 sD2
        refine ⟨S3, ρ', g3.in_, hr'.sub g3.s, ?_⟩
        show post (fe ρ') _ _
        rw [hye]
        intro v H4 S4 g4 q4
        obtain ⟨eD4, sD4⟩ := keepD g4 eD3 sD3
        refine ⟨accV, eD4, ?_, ?_⟩
        · rw [ra.length]
          exact Nat.lt_of_le_of_lt (Nat.le_trans hal (Nat.le_of_lt hlt)) (Nat.lt_of_le_of_lt hz bigLt)
        · rw [hW]
          have gall : Grow Hc Sc H4 S4 := (g2.trans g3).trans g4
          refine ⟨hlt, rfl, S4, accD ++ [y], accV ++ [v], ys2, ?_, h1c.trans gall.s, ?_, fun b e n => ?_, upd_same, sD4, RpA.append (ra.sub gall.s) (RpA.cons q4 RpA.nil), ?_, hr2, ?_⟩
          · intro b o e
            rw [upd_ne (fun z => by rw [z, sD4] at e; cases e)]
            exact gall.in_ _ _ e
          · intro b o e
            rw [upd_ne (fun z => by rw [z, hD] at e; cases e)]
            exact gall.h _ _ (hHc _ _ e)
          · by_cases q : Sc b = none
            · have := gall.new b q n
              cases z : H1 b with
              | none => rfl
              | some o => rw [hHc b o z] at this; cases this
            · exact hnew b e q
          · rw [List.length_append, List.length_singleton]; omega
          · rw [← hsum, esum, List.append_assoc]; rfl
      · refine ⟨S2, ρ', g2.in_, hr', ?_⟩
        show post ((fc ρ').bind truth) _ _
        rw [hc]
        intro H3 S3 g3
        show (if false = true then _ else _)
        rw [if_neg Bool.false_ne_true, hW]
        obtain ⟨eD3, sD3⟩ := keepD g3 eD2 sD2
        have gall : Grow Hc Sc H3 S3 := g2.trans g3
        refine ⟨hlt, rfl, S3, accD, accV, ys', gall.in_, h1c.trans gall.s, hHc.trans gall.h, fun b e n => ?_, eD3, sD3, ra.sub gall.s, by omega, hr2, hsum⟩
        by_cases q : Sc b = none
        · have := gall.new b q n
          cases z : H1 b with
          | none => rfl
          | some o => rw [hHc b o z] at this; cases this
        · exact hnew b e q
    · have e : i = xs.length := by omega
      subst e
      rw [List.drop_length] at hrest
      have ey := lcGo_nil hrest
      subst ey
      rw [List.append_nil] at hsum
      subst hsum
      refine .inl ⟨hJ.stop Hc hS1c, hQ D accV Hc Sc ⟨g1.h.trans hHc, g1.s.trans h1c, hSc, fun b e n => ?_⟩ eD ?_ sD ra⟩
      · by_cases q : S1 b = none
        · have := hnew b q n
          cases q2 : H b with
          | none => rfl
          | some o => rw [g1.h b o q2] at this; cases this
        · exact g1.new b e q
      · cases q : H D with
        | none => rfl
        | some o => rw [g1.h D o q] at hD; cases hD
theorem lc_read {wi : TI} {own : List Nat} {t : Tg} {fi fc fe : Env → R PyData} {g : TG} {tt : TT} {te : TE} {σ : St} {H : Hp} {Q : VK}
    (hg : g = gT X.K t) (htt : tt = tDT ⟨X.K, cl, noW⟩ fun ρ => (fc ρ).bind truth) (hte : te = tD ⟨X.K, cl, noW⟩ fe) (hwi : wi = tDI (wh X cl W) fi) (hσ : ∀ i ∈ own, i < σ.length) (hown : ∀ i ∈ t.all, i ∈ own)
    (h : tDF (wh X cl W) (lcD own t fi fc fe) σ H Q) : tLc wi g tt te own σ H Q := by
  obtain ⟨S, ρ, hS, hr, h⟩ := h
  subst hwi
  unfold lcD at h
  rw [post_bind] at h
  refine ⟨S, ρ, hS, hr, post_mono h (fun d p => ?_) fun _ z => z⟩
  cases d <;> try exact p.elim
  rename_i xs
  dsimp only at p ⊢
  intro J H1 S1 g1 hJ
  by_cases hz : xs.length ≤ big
  · rw [if_pos hz] at p
    cases hgo : lcGo t fc fe (wipeE ρ own) xs with
    | ok ys =>
      rw [hgo] at p
      exact lc_turns (X := X) (cl := cl) hg htt hte hσ hown hr g1 hJ hz hgo p
    | ex c => rw [hgo] at p; exact p.elim
    | bad => rw [hgo] at p; exact p.elim
  · rw [if_neg hz] at p; exact p.elim

theorem pe_impL {t t' : TE} (h : PE X e t) (hi : ∀ σ H Q, σ.length = X.N.length → t' σ H Q → t σ H Q) : PE X e t' := ⟨fun pins s σ H Q I q => h.run pins s σ H Q I (hi σ H Q I.len q)⟩
theorem ps_impL {st : Stmt} {t t' : TS} (h : PS X st t) (hi : ∀ D σ H, σ.length = X.N.length → t' D σ H → t D σ H) : PS X st t' := ⟨fun pins s σ H D I q => h.run pins s σ H D I (hi D σ H I.len q)⟩
/-- what a comprehension's parts are read as -/
structure LcP (X : Cx) (cl : Nat → Value) (W : WX) (elt tg iter : Expr) (ifs : List Expr) (scope : Scope) (own : List (Str × Nat)) (t : Tg) (fi fc fe : Env → R PyData) : Prop where
  it : SndI X cl W tg iter fi
  ok : BlkOk X.N X.env.scope scope own
  tg : ∀ (s : Shared) (H : Hp) (C : Addr) (c : List (Str × Addr)) (fp : List Addr), PG (X.blk s H scope (compEnvC scope c C X.env) fp) tg (gT X.K t)
  cond : ∀ (s : Shared) (H : Hp) (C : Addr) (c : List (Str × Addr)) (fp : List Addr), SndT (X.blk s H scope (compEnvC scope c C X.env) fp) cl noW ifs fc
  elt : ∀ (s : Shared) (H : Hp) (C : Addr) (c : List (Str × Addr)) (fp : List Addr), PE (X.blk s H scope (compEnvC scope c C X.env) fp) elt (tD ⟨X.K, cl, noW⟩ fe)
  ix : ∀ i ∈ own.map (·.2), i < X.N.length
  all : ∀ i ∈ t.all, i ∈ own.map (·.2)
  set : ∀ x, foldedSetIterable iter X.env x = pure x
theorem lcD_list {own : List Nat} {t : Tg} {fi fc fe : Env → R PyData} {ρ : Env} {d : PyData} (h : lcD own t fi fc fe ρ = .ok d) : ∃ ds, d = .list ds := by
  unfold lcD at h
  cases e : fi ρ with
  | ok x =>
    rw [e] at h
    cases x with
    | list xs =>
      have h : (if xs.length ≤ big then (match lcGo t fc fe (wipeE ρ own) xs with
        | .ok ys => R.ok (PyData.list ys)
        | _ => .bad) else .bad) = .ok d := h
      by_cases hz : xs.length ≤ big
      · rw [if_pos hz] at h
        cases q : lcGo t fc fe (wipeE ρ own) xs with
        | ok ys => rw [q] at h; cases h; exact ⟨ys, rfl⟩
        | ex c => rw [q] at h; cases h
        | bad => rw [q] at h; cases h
      · rw [if_neg hz] at h; cases h
    | _ => cases h
  | ex c => rw [e] at h; cases h
  | bad => rw [e] at h; cases h
theorem lc_fresh {elt tg iter : Expr} {ifs : List Expr} {scope : Scope} {own : List (Str × Nat)} {t : Tg} {fi fc fe : Env → R PyData} (hc : X.calm = true) (hN : X.N.Nodup) (h : LcP X cl W elt tg iter ifs scope own t fi fc fe) :
    PE X (.ListComp elt [⟨tg, iter, ifs, 0⟩] scope pos) (tDF (wh X cl W) (lcD (own.map (·.2)) t fi fc fe)) :=
  pe_impL (pe_lc hc hN h.it h.ok h.tg h.cond h.elt h.set) fun σ H Q hl q => lc_read (X := X) (cl := cl) (W := W) rfl rfl rfl rfl (fun i hi => by rw [hl]; exact h.ix i hi) h.all q
theorem snd_lc {elt tg iter : Expr} {ifs : List Expr} {scope : Scope} {own : List (Str × Nat)} {t : Tg} {fi fc fe : Env → R PyData} (hc : X.calm = true) (hN : X.N.Nodup) (h : LcP X cl W elt tg iter ifs scope own t fi fc fe) :
    Snd X cl W (.ListComp elt [⟨tg, iter, ifs, 0⟩] scope pos) (lcD (own.map (·.2)) t fi fc fe) :=
  Snd.of (pe_imp (lc_fresh hc hN h) fun σ H Q q => td_tdf (fun ρ d e => lcD_list e) q) rfl
/-- name = [..] on one line -/
theorem set_lc {elt tg iter : Expr} {ifs : List Expr} {scope : Scope} {own : List (Str × Nat)} {t : Tg} {fi fc fe : Env → R PyData} {i : Nat} {y : Str} {py spos : Pos} (hc : X.calm = true) (hN : X.N.Nodup) (h : LcP X cl W elt tg iter ifs scope own t fi fc fe)
    (hy : X.N[i]? = some y) (hyl : X.env.scope.names.lookup y = some .local) (hk : X.env.scope.kind = .function) (hl : (py.line == pos.line) = true) (ha : (scope.names.any fun (n, k) => n == y && (k == .local || k == .cell)) = false) :
    PS X (.Assign [.Name y py] (.ListComp elt [⟨tg, iter, ifs, 0⟩] scope pos) spos) (tAsg (tDF (wh X cl W) (lcD (own.map (·.2)) t fi fc fe)) (gName i)) :=
  ps_impL (ps_setLc hc hN hy hyl (sw_true hk hyl hl ha) h.it h.ok h.tg h.cond h.elt h.set) fun D σ H hl q => lc_read (X := X) (cl := cl) (W := W) rfl rfl rfl rfl (fun i hi => by rw [hl]; exact h.ix i hi) h.all q
end
end DL
namespace DL
open PySem PySem.Spec PyProof.Rows L2

/-! ### the tables of a program -/
structure FnI where
  nm : Str
  ps : List Str
  dfl : List PyData
structure Tab where
  fns : List FnI
  gls : List (Str × PyData)
  exs : List Str
  bls : List Str
/-- the defaults that fill up n written arguments -/
def padOf (f : FnI) (n : Nat) : List PyData := f.dfl.drop (f.dfl.length - (f.ps.length - n))
mutual
def sameD (a b : PyData) : Bool := match a, b with
  | .none, .none => true
  | .bool x, .bool y => x == y
  | .int x, .int y => decide (x = y)
  | .str x, .str y => decide (x = y)
  | .tuple xs, .tuple ys => sameDs xs ys
  | _, _ => false
termination_by structural a
def sameDs (a b : List PyData) : Bool := match a, b with
  | [], [] => true
  | x :: xs, y :: ys => sameD x y && sameDs xs ys
  | _, _ => false
termination_by structural a
end
mutual
theorem sameD_ok : ∀ (a b : PyData), sameD a b = true → a = b
  | .none, b, h => by cases b <;> simp [sameD] at h ⊢
  | .bool x, b, h => by cases b <;> simp [sameD] at h ⊢; exact h
  | .int x, b, h => by cases b <;> simp [sameD] at h ⊢; exact h
  | .str x, b, h => by cases b <;> simp [sameD] at h ⊢; exact h
  | .tuple xs, b, h => by
    cases b with
    | tuple ys =>
      simp only [sameD] at h
      rw [sameDs_ok xs ys h]
    | _ => simp [sameD] at h
  | .list xs, b, h => by simp [sameD] at h
  | .dict xs, b, h => by simp [sameD] at h
theorem sameDs_ok : ∀ (a b : List PyData), sameDs a b = true → a = b
  | [], b, h => by cases b <;> simp [sameDs] at h ⊢
  | x :: xs, b, h => by
    cases b with
    | nil => simp [sameDs] at h
    | cons y ys =>
      simp only [sameDs, Bool.and_eq_true] at h
      rw [sameD_ok x y h.1, sameDs_ok xs ys h.2]
end

/-! ### does the reading fit the text? -/
inductive Syn where
  | e (x : Expr) | es (xs : List Expr) | op (o : Option Expr) | it (tg x : Expr) | bo (op : BoolOp) (xs : List Expr)
def visB (sc : Scope) (x : Str) : Bool := match sc.names.lookup x with
  | some .local => true
  | some .cell => true
  | some .free => true
  | _ => false
def locB (sc : Scope) (x : Str) : Bool := match sc.names.lookup x with
  | some .local => true
  | some .cell => true
  | _ => false
def glB (sc : Scope) (x : Str) : Bool := decide (sc.names.lookup x = some .globalImplicit)
def okN (x : Str) : Bool := !(x == ("__debug__" : Str)) && !(x == ("__classdict__" : Str))
/-- a target's names in a block's own scope -/
def chkT (N : List Str) (sc : Scope) (t : Tg) (x : Expr) : Bool := match t, x with
  | .one i, .Name y _ => decide (N[i]? = some y) && locB sc y
  | .many is, .Tuple xs _ _ => (match namesOf xs with
    | some ys => ixAll N ys is && decide (is.length = xs.length) && ys.all (locB sc)
    | none => false)
  | _, _ => false
def isLit : IE → Bool
  | .bl b => b
  | _ => false
def notSet : Expr → Bool
  | .Set _ _ _ => false
  | _ => true
def tyNm (x : Str) (T : String) : Bool := (decide (x = "int") && decide (T = "int")) || (decide (x = "bool") && decide (T = "bool")) || (decide (x = "tuple") && decide (T = "tuple")) || (decide (x = "str") && decide (T = "str")) || (decide (x = "list") && decide (T = "list"))

def chk (T : Tab) (N : List Str) (ir : IE) (sc : Scope) (s : Syn) : Bool := match ir with
  | .var i => (match s with
    | .e (.Name y _) => decide (N[i]? = some y) && visB sc y && okN y
    | _ => false)
  | .int i => (match s with
    | .e (.Constant (.int j) _ _) => decide (i = j)
    | _ => false)
  | .bl i => (match s with
    | .e (.Constant (.bool j) _ _) => i == j
    | _ => false)
  | .non => (match s with
    | .e (.Constant .none _ _) => true
    | _ => false)
  | .str i => (match s with
    | .e (.Constant (.str j) _ _) => decide (i = j)
    | _ => false)
  | .glob j d => (match s with
    | .e (.Name y _) => glB sc y && okN y && (match T.gls[j]? with
      | some (z, d') => decide (z = y) && sameD d d'
      | none => false)
    | _ => false)
  | .bin o a b => (match s with
    | .e (.BinOp x op y _) => decide (op = o.op) && chk T N a sc (.e x) && chk T N b sc (.e y)
    | _ => false)
  | .neg a => (match s with
    | .e (.UnaryOp .USub x _) => chk T N a sc (.e x)
    | _ => false)
  | .cmp o a b => (match s with
    | .e (.Compare x [op] [y] _) => decide (op = o.op) && !behindInMarks op y && chk T N a sc (.e x) && chk T N b sc (.e y)
    | _ => false)
  | .chain o o' a b c => (match s with
    | .e (.Compare x [op, op'] [y, z] _) => decide (op = o.op) && decide (op' = o'.op) && !lastMarks [op, op'] [y, z] && !behindInMarks op y && !behindInMarks op' z && chk T N a sc (.e x) && chk T N b sc (.e y) && chk T N c sc (.e z)
    | _ => false)
  | .not a => (match s with
    | .e (.UnaryOp .Not x _) => chk T N a sc (.e x)
    | _ => false)
  | .and a b => (match s with
    | .e (.BoolOp .And (x :: y :: r) _) => chk T N a sc (.e x) && chk T N b sc (.bo .And (y :: r))
    | .bo .And (x :: y :: r) => chk T N a sc (.e x) && chk T N b sc (.bo .And (y :: r))
    | _ => false)
  | .or a b => (match s with
    | .e (.BoolOp .Or (x :: y :: r) _) => chk T N a sc (.e x) && chk T N b sc (.bo .Or (y :: r))
    | .bo .Or (x :: y :: r) => chk T N a sc (.e x) && chk T N b sc (.bo .Or (y :: r))
    | _ => false)
  | .one a => (match s with
    | .bo _ [x] => chk T N a sc (.e x)
    | _ => false)
  | .ite c a b => (match s with
    | .e (.IfExp x y z _) => chk T N c sc (.e x) && chk T N a sc (.e y) && chk T N b sc (.e z)
    | _ => false)
  | .tup es => (match s with
    | .e (.Tuple xs _ _) => Nat.ble xs.length big && chk T N es sc (.es xs)
    | _ => false)
  | .lst es => (match s with
    | .e (.List xs _) => Nat.ble xs.length big && chk T N es sc (.es xs)
    | _ => false)
  | .sub a i => (match s with
    | .e (.Subscript x y _) => plainIx y && chk T N a sc (.e x) && chk T N i sc (.e y)
    | _ => false)
  | .slice a lo hi => (match s with
    | .e (.Subscript x (.Slice l h none _) _) => chk T N a sc (.e x) && chk T N lo sc (.op l) && chk T N hi sc (.op h)
    | _ => false)
  | .rev a => (match s with
    | .e (.Subscript x (.Slice none none (some (.UnaryOp .USub (.Constant (.int i) _ _) _)) _) _) => decide (i = 1) && chk T N a sc (.e x)
    | _ => false)
  | .call j es => (match s with
    | .e (.Call (.Name y _) (x :: xs) [] _) => glB sc y && okN y && (match T.fns[j]? with
      | some f => decide (f.nm = y) && Nat.ble (x :: xs).length f.ps.length && Nat.ble (f.ps.length - (x :: xs).length) f.dfl.length
      | none => false) && chk T N es sc (.es (x :: xs))
    | _ => false)
  | .blt b es => (match s with
    | .e (.Call (.Name y _) (x :: xs) [] _) => decide (y = b.nm) && glB sc y && T.bls.contains y && chk T N es sc (.es (x :: xs))
    | _ => false)
  | .isi a Ty => (match s with
    | .e (.Call (.Name y _) [x, .Name z _] [] _) => decide (y = "isinstance") && glB sc y && T.bls.contains y && glB sc z && T.bls.contains z && tyNm z Ty && notStar x && chk T N a sc (.e x)
    | _ => false)
  | .lc own own' t it cond elt => (match s with
    | .e (.ListComp x [⟨tg, iter, ifs, asy⟩] scope _) => decide (asy = 0) && blkC N sc scope own' && decide (own = own'.map (·.2)) && own.all (fun i => decide (i < N.length)) && t.all.all (fun i => own.contains i) && chkT N scope t tg && notSet iter &&
      (match scope.kind with
        | .function => true
        | _ => false) && chk T N it sc (.it tg iter) &&
      (match ifs with
        | [] => isLit cond
        | [c] => chk T N cond (relS scope sc) (.e c)
        | _ => false) && chk T N elt (relS scope sc) (.e x)
    | _ => false)
  | .enil => (match s with
    | .es [] => true
    | _ => false)
  | .econs h t => (match s with
    | .es (x :: xs) => notStar x && chk T N h sc (.e x) && chk T N t sc (.es xs)
    | _ => false)
  | .nopart => (match s with
    | .op none => true
    | _ => false)
  | .part a => (match s with
    | .op (some x) => chk T N a sc (.e x)
    | _ => false)
  | .iseq a => (match s with
    | .it _ x => chk T N a sc (.e x)
    | _ => false)
  | .ir1 a => (match s with
    | .it _ (.Call (.Name y _) [x] [] _) => decide (y = "range") && glB sc y && T.bls.contains y && notStar x && chk T N a sc (.e x)
    | _ => false)
  | .ir2 a b => (match s with
    | .it _ (.Call (.Name y _) [x, z] [] _) => decide (y = "range") && glB sc y && T.bls.contains y && notStar x && notStar z && chk T N a sc (.e x) && chk T N b sc (.e z)
    | _ => false)
  | .ir3 a b c => (match s with
    | .it _ (.Call (.Name y _) [x, z, w] [] _) => decide (y = "range") && glB sc y && T.bls.contains y && notStar x && notStar z && notStar w && chk T N a sc (.e x) && chk T N b sc (.e z) && chk T N c sc (.e w)
    | _ => false)
  | _ => false
termination_by structural ir

/-- a place in the run of a body -/
structure At (T : Tab) (N : List Str) (cl : Nat → Value) (run : Nat → List PyData → R PyData) (X : Cx) (sc : Scope) (W : WX) : Prop where
  calm : X.calm = true
  nd : X.N.Nodup
  N : X.N = N
  scope : X.env.scope = sc
  hu : X.A.units + 64 < cLine
  tk : Takes X W
  fns : ∀ (j : Nat) (f : FnI), T.fns[j]? = some f → ∃ (k : Nat) (g : Addr) (fd : FuncData), Room k X.A ∧ X.mg f.nm = some (.ref g) ∧ PySem.W.keepIn X.K (.ref g) = true ∧ FnOk X.prog X.w X.K X.mg X.base (L2.CX X.prog X.w) k g fd f.ps (spD X.K cl (run j) f.ps.length) ∧
    ∀ n, n ≤ f.ps.length → f.ps.length - n ≤ f.dfl.length → ∃ dvs ds, Vals dvs ds ∧ (∀ S, RpA X.K S (padOf f n) dvs) ∧ Binds X.K fd f.ps ds
  gls : ∀ (j : Nat) (x : Str) (d : PyData), T.gls[j]? = some (x, d) → ∃ v u, X.mg x = some u ∧ RelV v u ∧ ∀ S, Rp X.K S d v
  bls : ∀ x ∈ T.bls, X.mg x = none
/-- calls give what the defs give of all their arguments -/
def CallOk (T : Tab) (call run : Nat → List PyData → R PyData) : Prop := ∀ (j : Nat) (f : FnI) (xs : List PyData), T.fns[j]? = some f → call j xs = run j (xs ++ padOf f xs.length)

theorem At.blk {T : Tab} {N : List Str} {cl : Nat → Value} {run : Nat → List PyData → R PyData} {X : Cx} {sc : Scope} {W : WX} (h : At T N cl run X sc W) (scope : Scope) (s : Shared) (H : Hp) (C : Addr) (c : List (Str × Addr)) (fp : List Addr) :
    At T N cl run (X.blk s H scope (compEnvC scope c C X.env) fp) (relS scope sc) noW where
  calm := h.calm
  nd := h.nd
  N := h.N
  scope := by rw [← h.scope]; rfl
  hu := h.hu
  tk := takes0
  fns := h.fns
  gls := h.gls
  bls := h.bls

structure Good (T : Tab) (N : List Str) (cl : Nat → Value) (call : Nat → List PyData → R PyData) (ir : IE) (X : Cx) (sc : Scope) (W : WX) : Prop where
  e : ∀ x, chk T N ir sc (.e x) = true → Snd X cl W x (ev call ir)
  es : ∀ xs, chk T N ir sc (.es xs) = true → SndA X cl W xs (ev call ir) ∧ (∀ ρ d, ev call ir ρ = .ok d → ∃ ds, d = .tuple ds ∧ ds.length = xs.length) ∧ xs.all notStar = true
  op : ∀ o, chk T N ir sc (.op o) = true → SndO X cl W o (ev call ir)
  it : ∀ tg x, chk T N ir sc (.it tg x) = true → SndI X cl W tg x (ev call ir)
  bo : ∀ op xs pos, chk T N ir sc (.bo op xs) = true → SndB X cl W op xs pos (ev call ir)
  lc : ∀ x gs scope pos, chk T N ir sc (.e (.ListComp x gs scope pos)) = true → ∃ tg iter ifs own t fi fc fe, gs = [⟨tg, iter, ifs, 0⟩] ∧ LcP X cl W x tg iter ifs scope own t fi fc fe ∧ ev call ir = lcD (own.map (·.2)) t fi fc fe
end DL
namespace DL
open PySem PySem.Spec PyProof.Rows L2
section
variable {T : Tab} {N : List Str} {cl : Nat → Value} {call run : Nat → List PyData → R PyData} {X : Cx} {sc : Scope} {W : WX} {ir : IE}
theorem Good.ofE (he : ∀ x, chk T N ir sc (.e x) = true → Snd X cl W x (ev call ir)) (h2 : ∀ s, (∀ x, s ≠ .e x) → chk T N ir sc s = false) (h3 : ∀ x gs scope pos, chk T N ir sc (.e (.ListComp x gs scope pos)) = false := by intros; simp only [chk]) : Good T N cl call ir X sc W where
  lc := fun x gs scope pos h => by rw [h3] at h; cases h
  e := he
  es := fun xs h => by rw [h2 _ (fun x z => by cases z)] at h; cases h
  op := fun xs h => by rw [h2 _ (fun x z => by cases z)] at h; cases h
  it := fun tg xs h => by rw [h2 _ (fun x z => by cases z)] at h; cases h
  bo := fun op xs pos h => by rw [h2 _ (fun x z => by cases z)] at h; cases h
theorem Good.ofI (he : ∀ tg x, chk T N ir sc (.it tg x) = true → SndI X cl W tg x (ev call ir)) (h2 : ∀ s, (∀ tg x, s ≠ .it tg x) → chk T N ir sc s = false) : Good T N cl call ir X sc W where
  lc := fun xs gs scope pos h => by rw [h2 _ (fun tg x z => by cases z)] at h; cases h
  e := fun xs h => by rw [h2 _ (fun tg x z => by cases z)] at h; cases h
  es := fun xs h => by rw [h2 _ (fun tg x z => by cases z)] at h; cases h
  op := fun xs h => by rw [h2 _ (fun tg x z => by cases z)] at h; cases h
  it := he
  bo := fun op xs pos h => by rw [h2 _ (fun tg x z => by cases z)] at h; cases h
theorem visB_ok {x : Str} (h : visB sc x = true) (e : X.env.scope = sc) : Vis X.env.scope x := by
  unfold visB at h
  rw [e]
  unfold Vis
  split at h <;> first | exact .inl (by assumption) | exact .inr (.inl (by assumption)) | exact .inr (.inr (by assumption)) | cases h
theorem glB_ok {x : Str} (h : glB sc x = true) (e : X.env.scope = sc) : Gl X x := by
  unfold glB at h
  show X.env.scope.names.lookup x = _
  rw [e]
  exact of_decide_eq_true h
theorem okN_ok {x : Str} (h : okN x = true) : (x == ("__debug__" : Str)) = false ∧ (x == ("__classdict__" : Str)) = false := by
  unfold okN at h
  simp only [Bool.and_eq_true, Bool.not_eq_true'] at h
  exact h
theorem bls_ok {x : Str} (hA : At T N cl run X sc W) (h : T.bls.contains x = true) : X.mg x = none := hA.bls x (by simpa using h)
theorem tyNm_ok {x : Str} {Ty : String} (h : tyNm x Ty = true) : bootBuiltins x = some (.type Ty) ∧ x ≠ "__name__" ∧ (x == ("__debug__" : Str)) = false := by
  unfold tyNm at h
  simp only [Bool.or_eq_true, Bool.and_eq_true, decide_eq_true_eq] at h
  rcases h with (((⟨rfl, rfl⟩ | ⟨rfl, rfl⟩) | ⟨rfl, rfl⟩) | ⟨rfl, rfl⟩) | ⟨rfl, rfl⟩ <;> exact ⟨by decide +kernel, by decide, by decide⟩
theorem isLit_ok {c : IE} (h : isLit c = true) : ev call c = fun _ => .ok (.bool true) := by
  cases c <;> simp [isLit] at h
  subst h
  funext ρ
  simp only [ev]
theorem notSet_ok {e : Expr} {env : PySem.Env} (h : notSet e = true) : ∀ x, foldedSetIterable e env x = pure x := by
  intro x
  cases e <;> first | rfl | (simp [notSet] at h; done)

theorem chkT_ok {sc' : Scope} (hc : X.calm = true) (nd : X.N.Nodup) (hN : X.N = N) (fnl : ∀ y, locB sc' y = true → Loc X.env.scope y ∧ (X.fn y = true ∨ X.env.scope.names.lookup y = some .local)) :
    ∀ (t : Tg) (x : Expr), chkT N sc' t x = true → PG X x (gT X.K t)
  | .one i, x, h => by
    cases x <;> simp only [chkT] at h <;> first | (exact absurd h Bool.false_ne_true) | skip
    simp only [Bool.and_eq_true, decide_eq_true_eq] at h
    obtain ⟨l1, l2⟩ := fnl _ h.2
    exact pg_oneT nd (by rw [hN]; exact h.1) l1 l2
  | .many is, x, h => by
    cases x <;> simp only [chkT] at h <;> first | (exact absurd h Bool.false_ne_true) | skip
    rename_i xs k p
    cases hn : namesOf xs with
    | none => rw [hn] at h; exact absurd h Bool.false_ne_true
    | some ys =>
      rw [hn] at h
      simp only [Bool.and_eq_true, decide_eq_true_eq, List.all_eq_true] at h
      exact pg_many hc nd hn (by rw [hN]; exact h.1.1) h.1.2 fun y hy => fnl y (h.2 y hy)
theorem sound (hC : CallOk T call run) : ∀ (ir : IE) (X : Cx) (sc : Scope) (W : WX), At T N cl run X sc W → Good T N cl call ir X sc W := by
  intro ir
  induction ir with
  | var i =>
    intro X sc W hA
    refine Good.ofE (fun x h => ?_) fun s hs => by cases s <;> first | exact absurd rfl (hs _) | simp only [chk]
    simp only [chk] at h
    split at h
    · rename_i y p heq
      cases heq
      simp only [Bool.and_eq_true, decide_eq_true_eq] at h
      obtain ⟨h1, h2⟩ := okN_ok h.2
      exact snd_var (by rw [hA.N]; exact h.1.1) (visB_ok h.1.2 hA.scope) h1 h2
    · cases h
  | int i =>
    intro X sc W hA
    refine Good.ofE (fun x h => ?_) fun s hs => by cases s <;> first | exact absurd rfl (hs _) | simp only [chk]
    simp only [chk] at h
    split at h
    · rename_i heq
      cases heq
      have e := of_decide_eq_true h
      subst e
      exact snd_int
    · cases h
  | bl i =>
    intro X sc W hA
    refine Good.ofE (fun x h => ?_) fun s hs => by cases s <;> first | exact absurd rfl (hs _) | simp only [chk]
    simp only [chk] at h
    split at h
    · rename_i heq
      cases heq
      have e := eq_of_beq h
      subst e
      exact snd_bl
    · cases h
  | non =>
    intro X sc W hA
    refine Good.ofE (fun x h => ?_) fun s hs => by cases s <;> first | exact absurd rfl (hs _) | simp only [chk]
    simp only [chk] at h
    split at h
    · rename_i heq
      cases heq
      exact snd_non
    · cases h
  | str i =>
    intro X sc W hA
    refine Good.ofE (fun x h => ?_) fun s hs => by cases s <;> first | exact absurd rfl (hs _) | simp only [chk]
    simp only [chk] at h
    split at h
    · rename_i heq
      cases heq
      have e := of_decide_eq_true h
      subst e
      exact snd_str
    · cases h
  | glob j d =>
    intro X sc W hA
    refine Good.ofE (fun x h => ?_) fun s hs => by cases s <;> first | exact absurd rfl (hs _) | simp only [chk]
    simp only [chk] at h
    split at h
    · rename_i y p heq
      cases heq
      simp only [Bool.and_eq_true] at h
      obtain ⟨⟨hg, hn⟩, h⟩ := h
      cases hq : T.gls[j]? with
      | none => rw [hq] at h; cases h
      | some z =>
        obtain ⟨z, d'⟩ := z
        rw [hq] at h
        simp only [Bool.and_eq_true, decide_eq_true_eq] at h
        obtain ⟨e1, e2⟩ := h
        have e3 := sameD_ok _ _ e2
        subst e1 e3
        obtain ⟨v, u, h1, h2, h3⟩ := hA.gls j _ _ hq
        exact snd_glob (glB_ok hg hA.scope) h1 h2 h3 (okN_ok hn).1
    · cases h
  | bin o a b iha ihb =>
    intro X sc W hA
    refine Good.ofE (fun x h => ?_) fun s hs => by cases s <;> first | exact absurd rfl (hs _) | simp only [chk]
    simp only [chk] at h
    split at h
    · rename_i heq
      cases heq
      simp only [Bool.and_eq_true, decide_eq_true_eq] at h
      obtain ⟨⟨e, h1⟩, h2⟩ := h
      subst e
      exact (snd_bin ((iha X sc W hA).e _ h1) ((ihb X sc W hA).e _ h2)).imp (by funext ρ; simp only [ev])
    · cases h
  | neg a iha =>
    intro X sc W hA
    refine Good.ofE (fun x h => ?_) fun s hs => by cases s <;> first | exact absurd rfl (hs _) | simp only [chk]
    simp only [chk] at h
    split at h
    · rename_i heq
      cases heq
      exact (snd_neg ((iha X sc W hA).e _ h)).imp (by funext ρ; simp only [ev])
    · cases h
  | cmp o a b iha ihb =>
    intro X sc W hA
    refine Good.ofE (fun x h => ?_) fun s hs => by cases s <;> first | exact absurd rfl (hs _) | simp only [chk]
    simp only [chk] at h
    split at h
    · rename_i heq
      cases heq
      simp only [Bool.and_eq_true, decide_eq_true_eq, Bool.not_eq_true'] at h
      obtain ⟨⟨⟨e, h0⟩, h1⟩, h2⟩ := h
      subst e
      exact (snd_cmp hA.hu ((iha X sc W hA).e _ h1) ((ihb X sc W hA).e _ h2) h0).imp (by funext ρ; simp only [ev])
    · cases h
  | chain o o' a b c iha ihb ihc =>
    intro X sc W hA
    refine Good.ofE (fun x h => ?_) fun s hs => by cases s <;> first | exact absurd rfl (hs _) | simp only [chk]
    simp only [chk] at h
    split at h
    · rename_i heq
      cases heq
      simp only [Bool.and_eq_true, decide_eq_true_eq, Bool.not_eq_true'] at h
      obtain ⟨⟨⟨⟨⟨⟨⟨e, e'⟩, hl⟩, h0⟩, h0'⟩, h1⟩, h2⟩, h3⟩ := h
      subst e e'
      have ga := (iha X sc W hA).e _ h1
      have gb := (ihb X sc W hA).e _ h2
      have gc := (ihc X sc W hA).e _ h3
      exact (snd_chain hA.hu ga gb gc h0 h0' (pe_chain (cpr hA.hu o) (cpr hA.hu o') ga.pe gb.pe gc.pe hl) (pt_chain (cpr hA.hu o) (cpr hA.hu o') ga.pe gb.pe gc.pe hl)).imp (by funext ρ; simp only [ev])
    · cases h
  | not a iha =>
    intro X sc W hA
    refine Good.ofE (fun x h => ?_) fun s hs => by cases s <;> first | exact absurd rfl (hs _) | simp only [chk]
    simp only [chk] at h
    split at h
    · rename_i heq
      cases heq
      exact (snd_not ((iha X sc W hA).e _ h)).imp (by funext ρ; simp only [ev])
    · cases h
  | and a b iha ihb =>
    intro X sc W hA
    have key : ∀ x y r pos, chk T N a sc (.e x) = true → chk T N b sc (.bo .And (y :: r)) = true → SndB X cl W .And (x :: y :: r) pos (ev call (.and a b)) := fun x y r pos h1 h2 => by
      have q := sndB_and (pos := pos) ((iha X sc W hA).e _ h1) ((ihb X sc W hA).bo _ _ pos h2)
      have e : ev call (.and a b) = fun ρ => (ev call a ρ).bind fun x => (truth x).bind fun k => if k then ev call b ρ else .ok x := by funext ρ; simp only [ev]
      rw [e]
      exact q
    refine ⟨fun x h => ?_, fun xs h => by simp [chk] at h, fun xs h => by simp [chk] at h, fun tg xs h => by simp [chk] at h, fun op xs pos h => ?_, fun x gs scope pos h => by simp [chk] at h⟩
    · simp only [chk] at h
      split at h
      · rename_i heq
        cases heq
        rw [Bool.and_eq_true] at h
        exact (key _ _ _ _ h.1 h.2).snd
      · rename_i heq; cases heq
      · cases h
    · simp only [chk] at h
      split at h
      · rename_i heq; cases heq
      · rename_i heq
        cases heq
        rw [Bool.and_eq_true] at h
        exact key _ _ _ _ h.1 h.2
      · cases h
  | or a b iha ihb =>
    intro X sc W hA
    have key : ∀ x y r pos, chk T N a sc (.e x) = true → chk T N b sc (.bo .Or (y :: r)) = true → SndB X cl W .Or (x :: y :: r) pos (ev call (.or a b)) := fun x y r pos h1 h2 => by
      have q := sndB_or (pos := pos) ((iha X sc W hA).e _ h1) ((ihb X sc W hA).bo _ _ pos h2)
      have e : ev call (.or a b) = fun ρ => (ev call a ρ).bind fun x => (truth x).bind fun k => if k then .ok x else ev call b ρ := by funext ρ; simp only [ev]
      rw [e]
      exact q
    refine ⟨fun x h => ?_, fun xs h => by simp [chk] at h, fun xs h => by simp [chk] at h, fun tg xs h => by simp [chk] at h, fun op xs pos h => ?_, fun x gs scope pos h => by simp [chk] at h⟩
    · simp only [chk] at h
      split at h
      · rename_i heq
        cases heq
        rw [Bool.and_eq_true] at h
        exact (key _ _ _ _ h.1 h.2).snd
      · rename_i heq; cases heq
      · cases h
    · simp only [chk] at h
      split at h
      · rename_i heq; cases heq
      · rename_i heq
        cases heq
        rw [Bool.and_eq_true] at h
        exact key _ _ _ _ h.1 h.2
      · cases h
  | one a iha =>
    intro X sc W hA
    refine ⟨fun x h => by simp [chk] at h, fun xs h => by simp [chk] at h, fun xs h => by simp [chk] at h, fun tg xs h => by simp [chk] at h, fun op xs pos h => ?_, fun x gs scope pos h => by simp [chk] at h⟩
    simp only [chk] at h
    split at h
    · rename_i heq
      cases heq
      have e : ev call (.one a) = ev call a := by funext ρ; simp only [ev]
      rw [e]
      exact sndB_one ((iha X sc W hA).e _ h)
    · cases h
  | ite c a b ihc iha ihb =>
    intro X sc W hA
    refine Good.ofE (fun x h => ?_) fun s hs => by cases s <;> first | exact absurd rfl (hs _) | simp only [chk]
    simp only [chk] at h
    split at h
    · rename_i heq
      cases heq
      simp only [Bool.and_eq_true] at h
      exact (snd_ite ((ihc X sc W hA).e _ h.1.1) ((iha X sc W hA).e _ h.1.2) ((ihb X sc W hA).e _ h.2)).imp (by funext ρ; simp only [ev])
    · cases h
  | tup es ih =>
    intro X sc W hA
    refine Good.ofE (fun x h => ?_) fun s hs => by cases s <;> first | exact absurd rfl (hs _) | simp only [chk]
    simp only [chk] at h
    split at h
    · rename_i heq
      cases heq
      rw [Bool.and_eq_true] at h
      obtain ⟨g1, g2, _⟩ := (ih X sc W hA).es _ h.2
      exact (snd_tup g1 fun ρ d q => by
        obtain ⟨ds, e1, e2⟩ := g2 ρ d q
        exact ⟨ds, e1, by rw [e2]; exact Nat.le_of_ble_eq_true h.1⟩).imp (by funext ρ; simp only [ev])
    · cases h
  | lst es ih =>
    intro X sc W hA
    refine Good.ofE (fun x h => ?_) fun s hs => by cases s <;> first | exact absurd rfl (hs _) | simp only [chk]
    simp only [chk] at h
    split at h
    · rename_i heq
      cases heq
      rw [Bool.and_eq_true] at h
      obtain ⟨g1, g2, _⟩ := (ih X sc W hA).es _ h.2
      exact (snd_lst g1 fun ρ d q => by
        obtain ⟨ds, e1, e2⟩ := g2 ρ d q
        exact ⟨ds, e1, by rw [e2]; exact Nat.le_of_ble_eq_true h.1⟩).imp (by funext ρ; simp only [ev])
    · cases h
  | sub a i iha ihi =>
    intro X sc W hA
    refine Good.ofE (fun x h => ?_) fun s hs => by cases s <;> first | exact absurd rfl (hs _) | simp only [chk]
    simp only [chk] at h
    split at h
    · rename_i heq
      cases heq
      simp only [Bool.and_eq_true] at h
      exact (snd_sub ((iha X sc W hA).e _ h.1.2) ((ihi X sc W hA).e _ h.2) h.1.1).imp (by funext ρ; simp only [ev])
    · cases h
  | slice a lo hi iha ihl ihh =>
    intro X sc W hA
    refine Good.ofE (fun x h => ?_) fun s hs => by cases s <;> first | exact absurd rfl (hs _) | simp only [chk]
    simp only [chk] at h
    split at h
    · rename_i heq
      cases heq
      simp only [Bool.and_eq_true] at h
      exact (snd_slice ((iha X sc W hA).e _ h.1.1) ((ihl X sc W hA).op _ h.1.2) ((ihh X sc W hA).op _ h.2)).imp (by funext ρ; simp only [ev])
    · cases h
  | rev a iha =>
    intro X sc W hA
    refine Good.ofE (fun x h => ?_) fun s hs => by cases s <;> first | exact absurd rfl (hs _) | simp only [chk]
    simp only [chk] at h
    split at h
    · rename_i heq
      cases heq
      simp only [Bool.and_eq_true, decide_eq_true_eq] at h
      obtain ⟨e, h⟩ := h
      subst e
      exact (snd_revL ((iha X sc W hA).e _ h)).imp (by funext ρ; simp only [ev])
    · cases h
  | call j es ih =>
    intro X sc W hA
    refine Good.ofE (fun x h => ?_) fun s hs => by cases s <;> first | exact absurd rfl (hs _) | simp only [chk]
    simp only [chk] at h
    split at h
    · rename_i y p x xs pos heq
      cases heq
      simp only [Bool.and_eq_true] at h
      obtain ⟨⟨⟨hg, hn⟩, hf⟩, he⟩ := h
      cases hq : T.fns[j]? with
      | none => rw [hq] at hf; cases hf
      | some f =>
        rw [hq] at hf
        simp only [Bool.and_eq_true, decide_eq_true_eq] at hf
        obtain ⟨⟨e1, l1⟩, l2⟩ := hf
        have l1 := Nat.le_of_ble_eq_true l1
        have l2 := Nat.le_of_ble_eq_true l2
        subst e1
        obtain ⟨k, g, fd, hr, hm, hk, hF, hb⟩ := hA.fns j f hq
        obtain ⟨dvs, ds, hd, hdf, hB⟩ := hb _ l1 l2
        obtain ⟨g1, g2, g3⟩ := (ih X sc W hA).es _ he
        have hlen : (padOf f (x :: xs).length).length = f.ps.length - (x :: xs).length := by
          unfold padOf
          rw [List.length_drop]
          omega
        refine (snd_call hF hr (glB_ok hg hA.scope) hm hk hB hd hdf hA.tk g1 (okN_ok hn).1 g3 fun ρ d q => ?_).imp ?_
        · obtain ⟨as, e1, e2⟩ := g2 ρ d q
          exact ⟨as, e1, by rw [e2, hlen]; omega⟩
        · funext ρ
          simp only [ev]
          cases hq2 : ev call es ρ with
          | ok d =>
            obtain ⟨as, e1, e2⟩ := g2 ρ d hq2
            subst e1
            show call j as = run j (as ++ padOf f (x :: xs).length)
            rw [hC j f as hq, e2]
          | ex c => rfl
          | bad => rfl
    · cases h
  | blt b es ih =>
    intro X sc W hA
    refine Good.ofE (fun x h => ?_) fun s hs => by cases s <;> first | exact absurd rfl (hs _) | simp only [chk]
    simp only [chk] at h
    split at h
    · rename_i y p x xs pos heq
      cases heq
      simp only [Bool.and_eq_true, decide_eq_true_eq] at h
      obtain ⟨⟨⟨e1, hg⟩, hm⟩, he⟩ := h
      subst e1
      obtain ⟨g1, g2, g3⟩ := (ih X sc W hA).es _ he
      exact (snd_blt hA.calm (glB_ok hg hA.scope) (bls_ok hA hm) g1 g3 fun ρ d q => by
        obtain ⟨as, e1, e2⟩ := g2 ρ d q
        exact ⟨as, e1⟩).imp (by funext ρ; simp only [ev])
    · cases h
  | isi a Ty ih =>
    intro X sc W hA
    refine Good.ofE (fun x h => ?_) fun s hs => by cases s <;> first | exact absurd rfl (hs _) | simp only [chk]
    simp only [chk] at h
    split at h
    · rename_i heq
      cases heq
      simp only [Bool.and_eq_true, decide_eq_true_eq] at h
      obtain ⟨⟨⟨⟨⟨⟨⟨e1, hg⟩, hm⟩, hg2⟩, hm2⟩, ht⟩, hs⟩, ha⟩ := h
      subst e1
      obtain ⟨t1, t2, t3⟩ := tyNm_ok ht
      exact (snd_isi (glB_ok hg hA.scope) (bls_ok hA hm) (glB_ok hg2 hA.scope) (bls_ok hA hm2) t1 t2 t3 ((ih X sc W hA).e _ ha) hs).imp (by funext ρ; simp only [ev])
    · cases h
  | lc own own' t it cond elt ihi ihc ihe =>
    intro X sc W hA
    have key : ∀ x gs scope pos, chk T N (.lc own own' t it cond elt) sc (.e (.ListComp x gs scope pos)) = true → ∃ tg iter ifs own2 t2 fi fc fe, gs = [⟨tg, iter, ifs, 0⟩] ∧ LcP X cl W x tg iter ifs scope own2 t2 fi fc fe ∧ ev call (.lc own own' t it cond elt) = lcD (own2.map (·.2)) t2 fi fc fe := by
     intro x gs scope pos h
     simp only [chk] at h
     split at h
     · rename_i x1 tg iter ifs asy scope pos heq
       cases heq
       simp only [Bool.and_eq_true, decide_eq_true_eq] at h
       obtain ⟨⟨⟨⟨⟨⟨⟨⟨⟨⟨h0, hb⟩, ho⟩, hix⟩, hall⟩, ht⟩, hset⟩, hk⟩, hi⟩, hc⟩, he⟩ := h
       subst h0 ho
       have hblk := blkOk_by hb
       have e : ev call (.lc (own'.map (·.2)) own' t it cond elt) = lcD (own'.map (·.2)) t (ev call it) (ev call cond) (ev call elt) := by funext ρ; simp only [ev]
       refine ⟨tg, iter, ifs, own', t, ev call it, ev call cond, ev call elt, rfl, ⟨(ihi X sc W hA).it _ _ hi, by rw [hA.N, hA.scope]; exact hblk, fun s H C c fp => ?_, fun s H C c fp => ?_, fun s H C c fp => ?_, fun i hi => ?_, fun i hi => ?_, notSet_ok hset⟩, e⟩
       · have hA' := hA.blk scope s H C c fp
         have fnl : ∀ y, locB scope y = true → Loc (X.blk s H scope (compEnvC scope c C X.env) fp).env.scope y ∧ ((X.blk s H scope (compEnvC scope c C X.env) fp).fn y = true ∨ (X.blk s H scope (compEnvC scope c C X.env) fp).env.scope.names.lookup y = some .local) := fun y hy => by
           rw [hA'.scope]
           unfold locB at hy
           split at hy
           · rename_i q
             have := lookup_relS_keep (sc := sc) (by decide) q
             exact ⟨.inl this, .inr this⟩
           · rename_i q
             have := lookup_relS_keep (sc := sc) (by decide) q
             refine ⟨.inr this, .inl ?_⟩
             show (scope.names.lookup y == some .cell) = true
             rw [q]; rfl
           · cases hy
         exact chkT_ok hA'.calm hA'.nd hA'.N fnl t tg ht
       · have hA' := hA.blk scope s H C c fp
         split at hc
         · rw [isLit_ok hc]
           exact sndT_nil
         · exact sndT_one ((ihc _ _ _ hA').e _ hc)
         · cases hc
       · exact ((ihe _ _ _ (hA.blk scope s H C c fp)).e _ he).pe
       · rw [hA.N]
         have := List.all_eq_true.mp hix i hi
         exact of_decide_eq_true this
       · have := List.all_eq_true.mp hall i hi
         simpa using this
     · cases h
    refine ⟨fun x h => ?_, fun xs h => by simp [chk] at h, fun xs h => by simp [chk] at h, fun tg xs h => by simp [chk] at h, fun op xs pos h => by simp [chk] at h, key⟩
    have h' := h
    simp only [chk] at h'
    split at h'
    · rename_i heq
      cases heq
      obtain ⟨tg, iter, ifs, own2, t2, fi, fc, fe, e1, e2, e3⟩ := key _ _ _ _ h
      rw [e3]
      cases e1
      exact snd_lc hA.calm hA.nd e2
    · cases h'
  | enil =>
    intro X sc W hA
    refine ⟨fun x h => by simp [chk] at h, fun xs h => ?_, fun xs h => by simp [chk] at h, fun tg xs h => by simp [chk] at h, fun op xs pos h => by simp [chk] at h, fun x gs scope pos h => by simp [chk] at h⟩
    simp only [chk] at h
    split at h
    · rename_i heq
      cases heq
      have e : ev call .enil = fun _ => .ok (.tuple []) := by funext ρ; simp only [ev]
      rw [e]
      exact ⟨sndA_nil, fun ρ d q => by cases q; exact ⟨[], rfl, rfl⟩, rfl⟩
    · cases h
  | econs a t iha iht =>
    intro X sc W hA
    refine ⟨fun x h => by simp [chk] at h, fun xs h => ?_, fun xs h => by simp [chk] at h, fun tg xs h => by simp [chk] at h, fun op xs pos h => by simp [chk] at h, fun x gs scope pos h => by simp [chk] at h⟩
    simp only [chk] at h
    split at h
    · rename_i heq
      cases heq
      simp only [Bool.and_eq_true] at h
      obtain ⟨⟨hs, h1⟩, h2⟩ := h
      obtain ⟨g1, g2, g3⟩ := (iht X sc W hA).es _ h2
      have e : ev call (.econs a t) = fun ρ => (ev call a ρ).bind fun x => (ev call t ρ).bind (consD x) := by funext ρ; simp only [ev]
      rw [e]
      refine ⟨sndA_cons ((iha X sc W hA).e _ h1) g1 hs, fun ρ d q => ?_, by rw [List.all_cons, Bool.and_eq_true]; exact ⟨hs, g3⟩⟩
      have q : ((ev call a ρ).bind fun x => (ev call t ρ).bind (consD x)) = .ok d := q
      cases q1 : ev call a ρ with
      | ok v =>
        rw [q1] at q
        have q : ((ev call t ρ).bind (consD v)) = .ok d := q
        cases q2 : ev call t ρ with
        | ok y =>
          rw [q2] at q
          obtain ⟨as, e1, e2⟩ := g2 ρ y q2
          subst e1
          have q : R.ok (PyData.tuple (v :: as)) = .ok d := q
          cases q
          exact ⟨_, rfl, by rw [List.length_cons, List.length_cons, e2]⟩
        | ex c => rw [q2] at q; cases q
        | bad => rw [q2] at q; cases q
      | ex c => rw [q1] at q; cases q
      | bad => rw [q1] at q; cases q
    · cases h
  | nopart =>
    intro X sc W hA
    refine ⟨fun x h => by simp [chk] at h, fun xs h => by simp [chk] at h, fun xs h => ?_, fun tg xs h => by simp [chk] at h, fun op xs pos h => by simp [chk] at h, fun x gs scope pos h => by simp [chk] at h⟩
    simp only [chk] at h
    split at h
    · rename_i heq
      cases heq
      have e : ev call .nopart = fun _ => .ok .none := by funext ρ; simp only [ev]
      rw [e]
      exact sndO_none
    · cases h
  | part a iha =>
    intro X sc W hA
    refine ⟨fun x h => by simp [chk] at h, fun xs h => by simp [chk] at h, fun xs h => ?_, fun tg xs h => by simp [chk] at h, fun op xs pos h => by simp [chk] at h, fun x gs scope pos h => by simp [chk] at h⟩
    simp only [chk] at h
    split at h
    · rename_i heq
      cases heq
      have e : ev call (.part a) = fun ρ => (ev call a ρ).bind numD := by funext ρ; simp only [ev]
      rw [e]
      exact sndO_some ((iha X sc W hA).e _ h)
    · cases h
  | iseq a iha =>
    intro X sc W hA
    refine Good.ofI (fun tg x h => ?_) fun s hs => by cases s <;> first | exact absurd rfl (hs _ _) | simp only [chk]
    simp only [chk] at h
    have e : ev call (.iseq a) = fun ρ => (ev call a ρ).bind fun x => (seqOf x).bind fun xs => .ok (.list xs) := by funext ρ; simp only [ev]
    rw [e]
    exact sndI_seq ((iha X sc W hA).e _ h)
  | ir1 a iha =>
    intro X sc W hA
    refine Good.ofI (fun tg x h => ?_) fun s hs => by cases s <;> first | exact absurd rfl (hs _ _) | simp only [chk]
    simp only [chk] at h
    split at h
    · rename_i heq
      cases heq
      simp only [Bool.and_eq_true, decide_eq_true_eq] at h
      obtain ⟨⟨⟨⟨e1, hg⟩, hm⟩, hs⟩, ha⟩ := h
      subst e1
      have e : ev call (.ir1 a) = fun ρ => (ev call a ρ).bind r1D := by funext ρ; simp only [ev]
      rw [e]
      exact sndI_range1 (glB_ok hg hA.scope) (bls_ok hA hm) ((iha X sc W hA).e _ ha) hs
    · cases h
  | ir2 a b iha ihb =>
    intro X sc W hA
    refine Good.ofI (fun tg x h => ?_) fun s hs => by cases s <;> first | exact absurd rfl (hs _ _) | simp only [chk]
    simp only [chk] at h
    split at h
    · rename_i heq
      cases heq
      simp only [Bool.and_eq_true, decide_eq_true_eq] at h
      obtain ⟨⟨⟨⟨⟨⟨e1, hg⟩, hm⟩, hs⟩, hs2⟩, ha⟩, hb⟩ := h
      subst e1
      have e : ev call (.ir2 a b) = fun ρ => (ev call a ρ).bind fun x => (ev call b ρ).bind (r2D x) := by funext ρ; simp only [ev]
      rw [e]
      exact sndI_range2 (glB_ok hg hA.scope) (bls_ok hA hm) ((iha X sc W hA).e _ ha) ((ihb X sc W hA).e _ hb) hs hs2
    · cases h
  | ienum a _ => exact fun X sc W hA => Good.ofE (fun x h => by simp [chk] at h) fun s hs => by simp only [chk]
  | izip a b _ _ => exact fun X sc W hA => Good.ofE (fun x h => by simp [chk] at h) fun s hs => by simp only [chk]
  | irev a _ => exact fun X sc W hA => Good.ofE (fun x h => by simp [chk] at h) fun s hs => by simp only [chk]
  | ir3 a b c iha ihb ihc =>
    intro X sc W hA
    refine Good.ofI (fun tg x h => ?_) fun s hs => by cases s <;> first | exact absurd rfl (hs _ _) | simp only [chk]
    simp only [chk] at h
    split at h
    · rename_i heq
      cases heq
      simp only [Bool.and_eq_true, decide_eq_true_eq] at h
      obtain ⟨⟨⟨⟨⟨⟨⟨⟨e1, hg⟩, hm⟩, hs⟩, hs2⟩, hs3⟩, ha⟩, hb⟩, hc⟩ := h
      subst e1
      have e : ev call (.ir3 a b c) = fun ρ => (ev call a ρ).bind fun x => (ev call b ρ).bind fun y => (ev call c ρ).bind (r3D x y) := by funext ρ; simp only [ev]
      rw [e]
      exact sndI_range3 (glB_ok hg hA.scope) (bls_ok hA hm) ((iha X sc W hA).e _ ha) ((ihb X sc W hA).e _ hb) ((ihc X sc W hA).e _ hc) hs hs2 hs3
    · cases h
end
end DL
namespace DL
open PySem PySem.Spec PyProof.Rows L2

/-! ### expressions that give a new list -/
def toF (K : PySem.W.Frag) (S H : Hp) (Q : VK) (d : PyData) : Prop := match d with
  | .list ds => ∀ p vs H', H p = none → Sub H H' → H' p = some (.lst vs) → S p = none → RpA K S ds vs → Q (.ref p) H'
  | _ => False
def rBF (K : PySem.W.Frag) (o : Bop) : R2 := fun x y H Q => ∃ S dx dy, Sub S H ∧ Rp K S dx x ∧ Rp K S dy y ∧ post (binD o dx dy) (toF K S H Q) (fun _ => False)
section
variable {X : Cx}
theorem opf_add : OpR X (binaryOp .Add) (rBF X.K .add) := by
  intro pins s σ H x y v u Q I rx ry ⟨S, dx, dy, hS, hx, hy, h⟩
  cases dx <;> cases dy <;> simp only [binD] at h <;> try exact h.elim
  · obtain ⟨hz, h⟩ := post_if h; exact h.elim
  · rename_i xs ys
    obtain ⟨hz, h⟩ := post_if h
    simp only [Rp] at hx hy
    obtain ⟨a, vs, rfl, ha, ra⟩ := hx
    obtain ⟨b, us, rfl, hb, rb⟩ := hy
    have hl : vs.length + us.length ≤ sizeLine := by rw [ra.length, rb.length]; exact Nat.le_trans hz bigLine
    exact op_cat pins s σ H _ _ v u Q I rx ry ⟨a, b, vs, us, rfl, rfl, hS _ _ ha, hS _ _ hb, hl, fun p hp =>
      h p _ _ hp (sub_upd hp) upd_same (hS.none hp) (RpA.append ra rb)⟩
  · obtain ⟨hz, h⟩ := post_if h; exact h.elim
theorem opf_mul : OpR X (binaryOp .Mult) (rBF X.K .mul) := by
  intro pins s σ H x y v u Q I rx ry ⟨S, dx, dy, hS, hx, hy, h⟩
  cases dx <;> cases dy <;> simp only [binD] at h <;> try exact h.elim
  · obtain ⟨hz, h⟩ := post_if h; exact h.elim
  · rename_i xs k
    obtain ⟨⟨z1, z2, z3⟩, h⟩ := post_if h
    simp only [Rp] at hx
    obtain ⟨a, vs, rfl, ha, ra⟩ := hx
    cases rp_int hy
    have hl : vs.length * k.toNat ≤ sizeLine := by rw [ra.length]; exact Nat.le_trans z3 bigLine
    exact op_rep pins s σ H _ _ v u Q I rx ry ⟨a, k, vs, rfl, rfl, hS _ _ ha, by omega, by omega, hl, fun p hp =>
      h p _ _ hp (sub_upd hp) upd_same (hS.none hp) (RpA.rep ra k.toNat)⟩
  · obtain ⟨hz, h⟩ := post_if h; exact h.elim
def freshOp : Bop → Bool
  | .add => true
  | .mul => true
  | _ => false
theorem opf {o : Bop} (h : freshOp o = true) : OpR X (binaryOp o.op) (rBF X.K o) := by
  cases o <;> first | exact opf_add | exact opf_mul | cases h
variable {cl : Nat → Value} {W : WX} {e a b : Expr} {es : List Expr} {f fa fb : Env → R PyData} {pos : Pos}
theorem fr_bin {o : Bop} (ho : freshOp o = true) (ha : Snd X cl W a fa) (hb : Snd X cl W b fb) : PE X (.BinOp a o.op b pos) (tDF (wh X cl W) fun ρ => (fa ρ).bind fun x => (fb ρ).bind fun y => binD o x y) := by
  refine pe_imp (pe_op (opf ho) ha.pe hb.pe) fun σ H Q ⟨S, ρ, hS, hr, h⟩ => ?_
  simp only [post_bind] at h
  refine td_two hS hr h fun x y vx vy H2 S2 p g qx qy => ⟨S2, x, y, g.in_, qx, qy, quiet_post (quiet_binD o x y) (post_mono p (fun d q => ?_) fun _ z => z)⟩
  cases d <;> try exact q.elim
  exact fun p vs H' n s e1 e2 r => q p vs H' S2 ⟨g.h.trans s, g.s, g.in_.trans s, g.new⟩ e1 (by
    cases z : H p with
    | none => rfl
    | some o => rw [g.h p o z] at n; cases n) e2 r
theorem fr_lst (h : SndA X cl W es f) (hz : ∀ ρ d, f ρ = .ok d → ∃ ds, d = .tuple ds ∧ ds.length ≤ big) : PE X (.List es pos) (tDF (wh X cl W) fun ρ => (f ρ).bind lstD) := by
  refine pe_imp (pe_lst h) fun σ H Q ⟨S, ρ, hS, hr, h⟩ => ?_
  simp only [post_bind] at h
  refine tda_one (P := fun d => f ρ = .ok d ∧ post (lstD d) (fun d => match d with
    | .list ds => ∀ p vs H' S', Grow H S H' S' → H' p = some (.lst vs) → H p = none → S' p = none → RpA X.K S' ds vs → Q (.ref p) H'
    | _ => False) ((wh X cl W).E σ H)) hS hr (post_monoR h (fun d e q => ⟨e, q⟩) fun _ z => z) (fun d p => ?_) fun ds vs H' S' p g r => ?_
  · obtain ⟨ds, e, _⟩ := hz ρ d p.1
    exact ⟨ds, e⟩
  · obtain ⟨ds', e, hl⟩ := hz ρ _ p.1
    cases e
    refine ⟨by rw [r.length]; exact Nat.le_trans hl bigLine, fun q n => ?_⟩
    have p2 := p.2
    exact p2 q _ _ S' ⟨g.h.trans (sub_upd n), g.s, g.in_.trans (sub_upd n), g.new⟩ upd_same (by
      cases z : H q with
      | none => rfl
      | some o => rw [g.h q o z] at n; cases n) (g.in_.none n) r
def rLi (K : PySem.W.Frag) : List V → Hp → VK → Prop := fun xs H Q => ∃ S ds, Sub S H ∧ RpA K S ds xs ∧ post (bltD .list ds) (toF K S H Q) (fun _ => False)
theorem blf : CallR X (.type "list") (rLi X.K) := by
  intro pins s σ H xs us Q I r ⟨S, ds, hS, hx, h⟩
  unfold bltD at h
  split at h <;> first | (rename_i heq _; cases heq; done) | skip
  all_goals try (rename_i hb; cases hb; done)
  · obtain ⟨v, rfl, q⟩ := one_of hx
    simp only [Rp] at q
    obtain ⟨a, vs, rfl, ha, ra⟩ := q
    exact call_list_of pins s σ H _ us Q I r ⟨a, vs, rfl, .inl (SqL.ofS (hS _ _ ha)), fun p hp => h p _ _ hp (sub_upd hp) upd_same (hS.none hp) ra⟩
  · obtain ⟨v, rfl, q⟩ := one_of hx
    simp only [Rp] at q
    obtain ⟨a, vs, rfl, ha, ra⟩ := q
    exact call_list_of pins s σ H _ us Q I r ⟨a, vs, rfl, .inr (SqT.sub hS ha), fun p hp => h p _ _ hp (sub_upd hp) upd_same (hS.none hp) ra⟩
  · exact h.elim
theorem fr_list {p : Pos} (hg : Gl X "list") (hm : X.mg "list" = none) (ha : SndA X cl W (e :: es) f) (hns : (e :: es).all notStar = true) (hn : ∀ ρ d, f ρ = .ok d → ∃ as, d = .tuple as) :
    PE X (.Call (.Name "list" p) (e :: es) [] pos) (tDF (wh X cl W) fun ρ => (f ρ).bind (unT (bltD .list))) := by
  rw [List.all_cons, Bool.and_eq_true] at hns
  refine pe_imp (pe_callTy blf hg hm (Blt.boot .list) ha (by decide) (by decide) (star_cons hns.1) (back_any hns.2)) fun σ H Q ⟨S, ρ, hS, hr', h⟩ => ?_
  simp only [post_bind] at h
  refine tda_one (P := fun d => f ρ = .ok d ∧ post (unT (bltD .list) d) (fun d => match d with
    | .list ds => ∀ p vs H' S', Grow H S H' S' → H' p = some (.lst vs) → H p = none → S' p = none → RpA X.K S' ds vs → Q (.ref p) H'
    | _ => False) ((wh X cl W).E σ H)) hS hr' (post_monoR h (fun d e q => ⟨e, q⟩) fun _ z => z) (fun d p => hn ρ d p.1) fun as vs H' S' p g r => ?_
  refine ⟨S', as, g.in_, r, quiet_post (quiet_bltD .list as) (post_mono p.2 (fun d q => ?_) fun _ z => z)⟩
  cases d <;> try exact q.elim
  exact fun p vs H2 n s e1 e2 r => q p vs H2 S' ⟨g.h.trans s, g.s, g.in_.trans s, g.new⟩ e1 (by
    cases z : H p with
    | none => rfl
    | some o => rw [g.h p o z] at n; cases n) e2 r
end
def freshE : IE → Bool
  | .lst _ => true
  | .lc _ _ _ _ _ _ => true
  | .bin o _ _ => freshOp o
  | .blt .list _ => true
  | _ => false
section
variable {T : Tab} {N : List Str} {cl : Nat → Value} {call run : Nat → List PyData → R PyData} {X : Cx} {sc : Scope} {W : WX}
theorem pe_eq {e : Expr} {w : Wh} {f g : Env → R PyData} (h : PE X e (tDF w f)) (hf : g = f) : PE X e (tDF w g) := by subst hf; exact h
theorem soundF (hC : CallOk T call run) (hA : At T N cl run X sc W) (ir : IE) (hf : freshE ir = true) (x : Expr) (h : chk T N ir sc (.e x) = true) : PE X x (tDF (wh X cl W) (ev call ir)) := by
  cases ir <;> simp only [freshE] at hf <;> try (exact absurd hf Bool.false_ne_true)
  case lst es =>
    simp only [chk] at h
    split at h
    · rename_i heq
      cases heq
      rw [Bool.and_eq_true] at h
      obtain ⟨g1, g2, _⟩ := (sound hC es X sc W hA).es _ h.2
      exact pe_eq (fr_lst g1 fun ρ d q => by
        obtain ⟨ds, e1, e2⟩ := g2 ρ d q
        exact ⟨ds, e1, by rw [e2]; exact Nat.le_of_ble_eq_true h.1⟩) (by funext ρ; simp only [ev])
    · cases h
  case bin o a b =>
    simp only [chk] at h
    split at h
    · rename_i heq
      cases heq
      simp only [Bool.and_eq_true, decide_eq_true_eq] at h
      obtain ⟨⟨e, h1⟩, h2⟩ := h
      subst e
      exact pe_eq (fr_bin hf ((sound hC a X sc W hA).e _ h1) ((sound hC b X sc W hA).e _ h2)) (by funext ρ; simp only [ev])
    · cases h
  case blt b es =>
    have eb : b = .list := by cases b <;> first | rfl | (exact absurd hf Bool.false_ne_true)
    subst eb
    simp only [chk] at h
    split at h
    · rename_i y p x xs pos heq
      cases heq
      simp only [Bool.and_eq_true, decide_eq_true_eq] at h
      obtain ⟨⟨⟨e1, hg⟩, hm⟩, he⟩ := h
      subst e1
      obtain ⟨g1, g2, g3⟩ := (sound hC es X sc W hA).es _ he
      exact pe_eq (fr_list (glB_ok hg hA.scope) (bls_ok hA hm) g1 g3 fun ρ d q => by
        obtain ⟨as, e1, e2⟩ := g2 ρ d q
        exact ⟨as, e1⟩) (by funext ρ; simp only [ev])
    · cases h
  case lc own own' t it cond elt =>
    have h' := h
    simp only [chk] at h'
    split at h'
    · rename_i heq
      cases heq
      obtain ⟨tg, iter, ifs, own2, t2, fi, fc, fe, e1, e2, e3⟩ := (sound hC _ X sc W hA).lc _ _ _ _ h
      rw [e3]
      cases e1
      exact lc_fresh hA.calm hA.nd e2
    · cases h'
end
end DL
namespace DL
open PySem PySem.Spec PyProof.Rows L2
open Classical

/-! ### a frame with lists of its own -/
/-- the lists that a slot owns -/
abbrev Fp := Nat → List Addr
def lstsAt (K : PySem.W.Frag) (H S : Hp) : List (List PyData) → List Addr → Prop
  | [], [] => True
  | ds :: dss, b :: bs => (∃ ws, H b = some (.lst ws) ∧ RpA K S ds ws) ∧ lstsAt K H S dss bs
  | _, _ => False
def SlR (K : PySem.W.Frag) (H S : Hp) (o : Option (Option V)) (s : Sl) (F : List Addr) : Prop := match s with
  | .un => F = []
  | .sh d => F = [] ∧ ∃ v, o = some (some v) ∧ Rp K S d v
  | .o1 ds => ∃ a vs, F = [a] ∧ o = some (some (.ref a)) ∧ H a = some (.lst vs) ∧ RpA K S ds vs
  | .o2 dss => ∃ a bs, F = a :: bs ∧ o = some (some (.ref a)) ∧ H a = some (.lst (bs.map V.ref)) ∧ lstsAt K H S dss bs
structure EnvR (K : PySem.W.Frag) (H S : Hp) (σ : St) (ρ : Env) (F : Fp) : Prop where
  sub : Sub S H
  slot : ∀ i s, ρ[i]? = some s → SlR K H S σ[i]? s (F i)
  out : ∀ i, ρ[i]? = none → F i = []
  nd : ∀ i, (F i).Nodup
  apart : ∀ i j a, a ∈ F i → a ∈ F j → i = j
  free : ∀ i a, a ∈ F i → S a = none
theorem lstsAt.mem {K : PySem.W.Frag} {H S : Hp} : ∀ {dss : List (List PyData)} {bs : List Addr}, lstsAt K H S dss bs → ∀ b ∈ bs, ∃ ws, H b = some (.lst ws)
  | [], [], _ => fun b h => by cases h
  | [], _ :: _, h => by cases h
  | _ :: _, [], h => by cases h
  | ds :: dss, b :: bs, h => fun c hc => by
    obtain ⟨⟨ws, e, _⟩, h2⟩ := h
    rcases List.mem_cons.mp hc with z | z
    · subst z; exact ⟨ws, e⟩
    · exact h2.mem c z
theorem lstsAt.mono {K : PySem.W.Frag} {H S H' S' : Hp} : ∀ {dss : List (List PyData)} {bs : List Addr}, lstsAt K H S dss bs → (∀ b ∈ bs, ∀ o, H b = some o → H' b = some o) → Sub S S' → lstsAt K H' S' dss bs
  | [], [], _, _, _ => trivial
  | [], _ :: _, h, _, _ => by cases h
  | _ :: _, [], h, _, _ => by cases h
  | ds :: dss, b :: bs, ⟨⟨ws, e, q⟩, h2⟩, hb, hs => ⟨⟨ws, hb b List.mem_cons_self _ e, q.sub hs⟩, h2.mono (fun c hc => hb c (List.mem_cons_of_mem _ hc)) hs⟩
theorem SlR.mem {K : PySem.W.Frag} {H S : Hp} {o : Option (Option V)} {s : Sl} {F : List Addr} (h : SlR K H S o s F) : ∀ a ∈ F, ∃ vs, H a = some (.lst vs) := by
  cases s with
  | un => intro a ha; rw [show F = [] from h] at ha; cases ha
  | sh d => intro a ha; rw [h.1] at ha; cases ha
  | o1 ds =>
    obtain ⟨a, vs, rfl, _, e, _⟩ := h
    intro b hb
    have : b = a := by simpa using hb
    subst this
    exact ⟨vs, e⟩
  | o2 dss =>
    obtain ⟨a, bs, rfl, _, e, q⟩ := h
    intro b hb
    rcases List.mem_cons.mp hb with z | z
    · subst z; exact ⟨_, e⟩
    · exact q.mem b z
theorem SlR.mono {K : PySem.W.Frag} {H S H' S' : Hp} {o : Option (Option V)} {s : Sl} {F : List Addr} (h : SlR K H S o s F) (hH : ∀ b ∈ F, ∀ u, H b = some u → H' b = some u) (hS : Sub S S') : SlR K H' S' o s F := by
  cases s with
  | un => exact h
  | sh d => exact ⟨h.1, h.2.imp fun v q => ⟨q.1, Rp.sub hS d v q.2⟩⟩
  | o1 ds =>
    obtain ⟨a, vs, rfl, e1, e, q⟩ := h
    exact ⟨a, vs, rfl, e1, hH a (by simp) _ e, q.sub hS⟩
  | o2 dss =>
    obtain ⟨a, bs, rfl, e1, e, q⟩ := h
    exact ⟨a, bs, rfl, e1, hH a (by simp) _ e, q.mono (fun b hb => hH b (by simp [hb])) hS⟩
def InF (F : Fp) (a : Addr) : Prop := ∃ i, a ∈ F i
theorem EnvR.lst {K : PySem.W.Frag} {H S : Hp} {σ : St} {ρ : Env} {F : Fp} (h : EnvR K H S σ ρ F) {a : Addr} (ha : InF F a) : (∃ vs, H a = some (.lst vs)) ∧ S a = none := by
  obtain ⟨i, hi⟩ := ha
  refine ⟨?_, h.free i a hi⟩
  cases e : ρ[i]? with
  | none => rw [h.out i e] at hi; cases hi
  | some s => exact (h.slot i s e).mem a hi

/-! ### the part that is seen: what stays, and the lists of the slots at P -/
noncomputable def seen (S H : Hp) (F : Fp) (P : Nat → Prop) : Hp := fun b => if ∃ i, P i ∧ b ∈ F i then H b else S b
section
variable {K : PySem.W.Frag} {H S H' S' : Hp} {σ : St} {ρ : Env} {F : Fp} {P : Nat → Prop}
theorem seen_in {b : Addr} (h : ∃ i, P i ∧ b ∈ F i) : seen S H F P b = H b := if_pos h
theorem seen_out {b : Addr} (h : ¬ ∃ i, P i ∧ b ∈ F i) : seen S H F P b = S b := if_neg h
theorem EnvR.seen_sub (h : EnvR K H S σ ρ F) : Sub S (seen S H F P) := fun b o e => by
  by_cases c : ∃ i, P i ∧ b ∈ F i
  · obtain ⟨i, _, hi⟩ := c
    rw [h.free i b hi] at e; cases e
  · rw [seen_out c]; exact e
theorem EnvR.seen_le (h : EnvR K H S σ ρ F) : Sub (seen S H F P) H := fun b o e => by
  by_cases c : ∃ i, P i ∧ b ∈ F i
  · rw [seen_in c] at e; exact e
  · rw [seen_out c] at e; exact h.sub b o e
theorem lsts_rp {dss : List (List PyData)} {bs : List Addr} (h : lstsAt K H S dss bs) (hs : Sub S S') (hb : ∀ b ∈ bs, S' b = H b) : RpA K S' (dss.map PyData.list) (bs.map V.ref) := by
  induction dss generalizing bs with
  | nil => cases bs with
    | nil => exact RpA.nil
    | cons => cases h
  | cons ds dss ih => cases bs with
    | nil => cases h
    | cons b bs =>
      obtain ⟨⟨ws, e, q⟩, h2⟩ := h
      exact RpA.cons (Rp.lst (by rw [hb b List.mem_cons_self]; exact e) (q.sub hs)) (ih h2 fun c hc => hb c (List.mem_cons_of_mem _ hc))
/-- the slots at P and those that own nothing are there as data -/
theorem EnvR.shr (h : EnvR K H S σ ρ F) {ρ' : Env} (hρ : ∀ i s d, ρ'[i]? = some s → s.val = some d → ∃ s', ρ[i]? = some s' ∧ s'.val = some d ∧ (P i ∨ F i = [])) : ShR K (seen S H F P) σ ρ' := by
  intro i s d e1 e2
  obtain ⟨s', e3, e4, hp⟩ := hρ i s d e1 e2
  have q := h.slot i s' e3
  have sb := h.seen_sub (P := P)
  have at_ : ∀ a ∈ F i, seen S H F P a = H a := fun a ha => by
    rcases hp with hp | hp
    · exact seen_in ⟨i, hp, ha⟩
    · rw [hp] at ha; cases ha
  cases s' with
  | un => cases e4
  | sh d' =>
    cases e4
    obtain ⟨_, v, ev, rv⟩ := q
    exact ⟨v, ev, Rp.sub sb d v rv⟩
  | o1 ds =>
    cases e4
    obtain ⟨a, vs, ef, ev, eh, rv⟩ := q
    exact ⟨.ref a, ev, Rp.lst (by rw [at_ a (by rw [ef]; simp)]; exact eh) (rv.sub sb)⟩
  | o2 dss =>
    cases e4
    obtain ⟨a, bs, ef, ev, eh, rv⟩ := q
    exact ⟨.ref a, ev, Rp.lst (by rw [at_ a (by rw [ef]; simp)]; exact eh) (lsts_rp rv sb fun b hb => at_ b (by rw [ef]; simp [hb]))⟩
/-- what was new beside what is owned at P -/
noncomputable def less (S' : Hp) (F : Fp) (P : Nat → Prop) : Hp := fun b => if ∃ i, P i ∧ b ∈ F i then none else S' b
theorem less_sub : Sub (less S' F P) S' := fun b o e => by
  unfold less at e
  split at e
  · cases e
  · exact e
theorem EnvR.less_up (h : EnvR K H S σ ρ F) (hs : Sub S S') : Sub S (less S' F P) := fun b o e => by
  unfold less
  rw [if_neg]
  · exact hs b o e
  · rintro ⟨i, _, hi⟩
    rw [h.free i b hi] at e; cases e
/-- behind an expression: the owned lists stand, the part that stays has grown -/
theorem EnvR.after (h : EnvR K H S σ ρ F) (g : Grow H (seen S H F P) H' S') : EnvR K H' (less S' F P) σ ρ F where
  sub := less_sub.trans g.in_
  slot := fun i s e => (h.slot i s e).mono (fun b _ u q => g.h b u q) (h.less_up (h.seen_sub.trans g.s))
  out := h.out
  nd := h.nd
  apart := h.apart
  free := fun i a ha => by
    unfold less
    by_cases c : ∃ j, P j ∧ a ∈ F j
    · rw [if_pos c]
    · rw [if_neg c]
      cases q : S' a with
      | none => rfl
      | some o =>
        have z := g.new a (by rw [seen_out c]; exact h.free i a ha) (by rw [q]; simp)
        obtain ⟨⟨vs, e⟩, _⟩ := h.lst ⟨i, ha⟩
        rw [e] at z; cases z
theorem SqT.less {a : Addr} {xs : List V} (h : EnvR K H S σ ρ F) (g : Grow H (seen S H F P) H' S') (q : SqT K S' a xs) : SqT K (less S' F P) a xs := by
  have key : ∀ o, S' a = some o → (∀ vs, o ≠ .lst vs) → DL.less S' F P a = some o := fun o e n => by
    unfold DL.less
    rw [if_neg]
    · exact e
    · rintro ⟨i, _, hi⟩
      obtain ⟨⟨vs, e2⟩, _⟩ := h.lst ⟨i, hi⟩
      have e3 := g.in_ a o e
      rw [g.h a _ e2] at e3
      cases e3
      exact n vs rfl
  rcases q with (q | ⟨o, q⟩) | q
  · exact .inl (.inl (key _ q fun vs z => by cases z))
  · exact .inl (.inr ⟨o, key _ q fun vs z => by cases z⟩)
  · exact .inr q
/-- a value that holds no list leaves nothing of the owned ones -/
theorem EnvR.pure_up (h : EnvR K H S σ ρ F) (g : Grow H (seen S H F P) H' S') {d : PyData} {v : V} (hp : pure? d = true) (hr : Rp K S' d v) : Rp K (less S' F P) d v := Rp.pure (fun a xs q => SqT.less h g q) d v hp hr
theorem EnvR.pures_up (h : EnvR K H S σ ρ F) (g : Grow H (seen S H F P) H' S') {d : List PyData} {v : List V} (hp : pures d = true) (hr : RpA K S' d v) : RpA K (less S' F P) d v := RpA.pure (fun a xs q => SqT.less h g q) d v hp hr
end

/-! ### what a statement may change -/
structure Chg (F : Fp) (H S H' S' : Hp) : Prop where
  keep : ∀ b o, H b = some o → ¬ InF F b → H' b = some o
  s : Sub S S'
  new : ∀ b, S b = none → S' b ≠ none → H b = none ∨ InF F b
def FpUp (F F' : Fp) (H : Hp) : Prop := ∀ b, InF F' b → H b = none ∨ InF F b
theorem Chg.refl {F : Fp} {H S : Hp} : Chg F H S H S := ⟨fun _ _ e _ => e, Sub.refl _, fun _ a b => absurd a b⟩
theorem Chg.trans {F F1 : Fp} {H S H1 S1 H2 S2 : Hp} (a : Chg F H S H1 S1) (u : FpUp F F1 H) (b : Chg F1 H1 S1 H2 S2) : Chg F H S H2 S2 := by
  have nin : ∀ c o, H c = some o → ¬ InF F c → ¬ InF F1 c := fun c o e n z => by
    rcases u c z with q | q
    · rw [e] at q; cases q
    · exact n q
  refine ⟨fun c o e n => b.keep c o (a.keep c o e n) (nin c o e n), a.s.trans b.s, fun c e n => ?_⟩
  by_cases q : S1 c = none
  · rcases b.new c q n with z | z
    · by_cases i : InF F c
      · exact .inr i
      · cases r : H c with
        | none => exact .inl rfl
        | some o => rw [a.keep c o r i] at z; cases z
    · exact u c z
  · exact a.new c e q
theorem FpUp.trans {F F1 F2 : Fp} {H S H1 S1 : Hp} (a : Chg F H S H1 S1) (u : FpUp F F1 H) (v : FpUp F1 F2 H1) : FpUp F F2 H := fun b hb => by
  rcases v b hb with z | z
  · by_cases i : InF F b
    · exact .inr i
    · cases r : H b with
      | none => exact .inl rfl
      | some o => rw [a.keep b o r i] at z; cases z
  · exact u b z
theorem EnvR.chg {K : PySem.W.Frag} {H S H' S' : Hp} {σ : St} {ρ : Env} {F : Fp} {P : Nat → Prop} (h : EnvR K H S σ ρ F) (g : Grow H (seen S H F P) H' S') : Chg F H S H' (less S' F P) := by
  refine ⟨fun b o e _ => g.h b o e, h.less_up (h.seen_sub.trans g.s), fun b e n => ?_⟩
  by_cases c : ∃ i, P i ∧ b ∈ F i
  · exact .inr ⟨c.choose, c.choose_spec.2⟩
  · have : less S' F P b = S' b := if_neg c
    rw [this] at n
    exact .inl (g.new b (by rw [seen_out c]; exact e) n)

/-- a statement's reading over data -/
def tSt (w : Wh) (f : Env → R Fl) : TS := fun D σ H => ∃ S ρ F, EnvR w.K H S σ ρ F ∧
  post (f ρ) (fun r => match r with
    | .next ρ' => ∀ σ' H' S' F', EnvR w.K H' S' σ' ρ' F' → Chg F H S H' S' → FpUp F F' H → σ'.length = σ.length → D.nx σ' H'
    | .ret d => ∀ v H' S', Sub S' H' → Chg F H S H' S' → Rp w.K S' d v → D.rt v H')
  (fun c => ∀ σ' H', (∀ b o, H b = some o → ¬ InF F b → H' b = some o) → w.W (w.cl c) none σ' H')
end DL
namespace DL
open PySem PySem.Spec PyProof.Rows L2
open Classical

/-! ### what is wanted behind a statement -/
def stP (w : Wh) (D : Ends) (n : Nat) (H S : Hp) (F : Fp) (r : Fl) : Prop := match r with
  | .next ρ' => ∀ σ' H' S' F', EnvR w.K H' S' σ' ρ' F' → Chg F H S H' S' → FpUp F F' H → σ'.length = n → D.nx σ' H'
  | .ret d => ∀ v H' S', Sub S' H' → Chg F H S H' S' → Rp w.K S' d v → D.rt v H'
def stE (w : Wh) (H : Hp) (F : Fp) (c : Nat) : Prop := ∀ σ' H', (∀ b o, H b = some o → ¬ InF F b → H' b = some o) → w.W (w.cl c) none σ' H'
theorem tSt_def {w : Wh} {f : Env → R Fl} {D : Ends} {σ : St} {H : Hp} : tSt w f D σ H ↔ ∃ S ρ F, EnvR w.K H S σ ρ F ∧ post (f ρ) (stP w D σ.length H S F) (stE w H F) := by
  constructor
  · rintro ⟨S, ρ, F, env, h⟩
    refine ⟨S, ρ, F, env, post_mono h (fun r q => ?_) fun c q => q⟩
    cases r <;> exact q
  · rintro ⟨S, ρ, F, env, h⟩
    refine ⟨S, ρ, F, env, post_mono h (fun r q => ?_) fun c q => q⟩
    cases r <;> exact q
section
variable {w : Wh} {D : Ends} {n : Nat} {H S H1 S1 : Hp} {F F1 : Fp}
theorem stP.up (c : Chg F H S H1 S1) (u : FpUp F F1 H) {r : Fl} (h : stP w D n H S F r) : stP w D n H1 S1 F1 r := by
  cases r with
  | next ρ' => exact fun σ' H' S' F' e c2 u2 l => h σ' H' S' F' e (c.trans u c2) (FpUp.trans c u u2) l
  | ret d => exact fun v H' S' s c2 q => h v H' S' s (c.trans u c2) q
theorem stE.up (c : Chg F H S H1 S1) (u : FpUp F F1 H) {e : Nat} (h : stE w H F e) : stE w H1 F1 e := fun σ' H' k => h σ' H' fun b o q n => k b o (c.keep b o q n) fun z => by
  rcases u b z with q2 | q2
  · rw [q] at q2; cases q2
  · exact n q2
/-- on with the rest -/
theorem go_on {f : Env → R Fl} {σ σ1 : St} {ρ1 : Env} (env : EnvR w.K H1 S1 σ1 ρ1 F1) (c : Chg F H S H1 S1) (u : FpUp F F1 H) (l : σ1.length = σ.length)
    (h : post (f ρ1) (stP w D σ.length H S F) (stE w H F)) : tSt w f D σ1 H1 :=
  tSt_def.mpr ⟨S1, ρ1, F1, env, post_mono h (fun r q => by rw [l]; exact q.up c u) fun e q => q.up c u⟩
theorem stE.e {σ : St} {c : Nat} (h : stE w H F c) : w.E σ H c := fun H' s => h σ H' fun b o q _ => s b o q
end

/-! ### storing -/
def clr (F : Fp) (i : Nat) : Fp := fun j => if j = i then [] else F j
def put (F : Fp) (i : Nat) (l : List Addr) : Fp := fun j => if j = i then l else F j
section
variable {K : PySem.W.Frag} {H S : Hp} {σ : St} {ρ : Env} {F : Fp}
theorem EnvR.store (h : EnvR K H S σ ρ F) {i : Nat} {v : V} {s : Sl} {l : List Addr} (hl : i < σ.length) (hs : SlR K H S (some (some v)) s l) (hnd : l.Nodup) (hap : ∀ a ∈ l, ∀ j, j ≠ i → a ∉ F j) (hf : ∀ a ∈ l, S a = none) (hρ : i < ρ.length ∨ l = []) :
    EnvR K H S (σ.set i (some v)) (ρ.set i s) (put F i l) where
  sub := h.sub
  slot := fun j s' e => by
    unfold put
    by_cases c : i = j
    · subst c
      rw [if_pos rfl, List.getElem?_set_self hl]
      by_cases q : i < ρ.length
      · rw [List.getElem?_set_self q] at e
        cases e
        exact hs
      · rw [List.getElem?_eq_none (by rw [List.length_set]; omega)] at e
        cases e
    · rw [if_neg (Ne.symm c), List.getElem?_set_ne c]
      rw [List.getElem?_set_ne c] at e
      exact h.slot j s' e
  out := fun j e => by
    unfold put
    by_cases c : i = j
    · subst c
      rw [if_pos rfl]
      rcases hρ with q | q
      · rw [List.getElem?_set_self q] at e; cases e
      · exact q
    · rw [if_neg (Ne.symm c)]
      rw [List.getElem?_set_ne c] at e
      exact h.out j e
  nd := fun j => by
    unfold put
    split
    · exact hnd
    · exact h.nd j
  apart := fun j k a ha hb => by
    unfold put at ha hb
    split at ha
    · split at hb
      · omega
      · rename_i c1 c2; exact absurd hb (hap a ha k c2)
    · split at hb
      · rename_i c1 c2; exact absurd ha (hap a hb j c1)
      · exact h.apart j k a ha hb
  free := fun j a ha => by
    unfold put at ha
    split at ha
    · exact hf a ha
    · exact h.free j a ha
theorem EnvR.setSh (h : EnvR K H S σ ρ F) {i : Nat} {v : V} {d : PyData} (hl : i < σ.length) (hr : Rp K S d v) : EnvR K H S (σ.set i (some v)) (ρ.set i (.sh d)) (put F i []) :=
  h.store hl ⟨rfl, v, rfl, hr⟩ List.nodup_nil (fun a ha => by cases ha) (fun a ha => by cases ha) (.inr rfl)
theorem EnvR.setO1 (h : EnvR K H S σ ρ F) {i : Nat} {p : Addr} {vs : List V} {ds : List PyData} (hl : i < σ.length) (hρ : i < ρ.length) (e : H p = some (.lst vs)) (hp : ∀ j, j ≠ i → p ∉ F j) (hs : S p = none) (hr : RpA K S ds vs) : EnvR K H S (σ.set i (some (.ref p))) (ρ.set i (.o1 ds)) (put F i [p]) :=
  h.store hl ⟨p, vs, rfl, rfl, e, hr⟩ (by simp) (fun a ha j hj => by
    have : a = p := by simpa using ha
    subst this; exact hp j hj) (fun a ha => by
    have : a = p := by simpa using ha
    subst this; exact hs) (.inl hρ)
theorem put_up {i : Nat} : FpUp F (put F i []) H := fun b ⟨j, hj⟩ => by
  unfold put at hj
  split at hj
  · cases hj
  · exact .inr ⟨j, hj⟩
theorem put_new {i : Nat} {p : Addr} (n : H p = none) : FpUp F (put F i [p]) H := fun b ⟨j, hj⟩ => by
  unfold put at hj
  split at hj
  · have : b = p := by simpa using hj
    subst this; exact .inl n
  · exact .inr ⟨j, hj⟩
theorem EnvR.lenρ (h : EnvR K H S σ ρ F) {i : Nat} {a : Addr} (ha : a ∈ F i) : i < ρ.length := by
  by_cases c : i < ρ.length
  · exact c
  · rw [h.out i (List.getElem?_eq_none (by omega))] at ha; cases ha
theorem EnvR.all (h : EnvR K H S σ ρ F) : ShR K (seen S H F fun _ => True) σ ρ := h.shr fun i s d e1 e2 => ⟨s, e1, e2, .inl trivial⟩
end

/-! ### the rules -/
abbrev SndS (X : Cx) (cl : Nat → Value) (W : WX) (sts : List Stmt) (g : Env → R Fl) : Prop := PSs X sts (tSt (wh X cl W) g)
theorem pss_impL {X : Cx} {st : List Stmt} {t t' : TS} (h : PSs X st t) (hi : ∀ D σ H, σ.length = X.N.length → t' D σ H → t D σ H) : PSs X st t' := ⟨fun pins s σ H D I q => h.run pins s σ H D I (hi D σ H I.len q)⟩
theorem post_if2 {α : Type} {c : Prop} [Decidable c] {a : R α} {P : α → Prop} {E : Nat → Prop} (h : post (if c then a else R.bad) P E) : c ∧ post a P E := by
  by_cases q : c
  · rw [if_pos q] at h; exact ⟨q, h⟩
  · rw [if_neg q] at h; exact h.elim
section
variable {X : Cx} {cl : Nat → Value} {W : WX} {st : Stmt} {rest body other : List Stmt} {e a b c : Expr} {f fa fb fc : Env → R PyData} {gk ga gb : Env → R Fl} {pos : Pos} {i : Nat}
theorem ss_nil : SndS X cl W [] fun ρ => .ok (.next ρ) := pss_imp pss_nil fun D σ H h => by
  obtain ⟨S, ρ, F, env, h⟩ := tSt_def.mp h
  exact h σ H S F env Chg.refl (fun b hb => .inr hb) rfl
theorem td_all {S : Hp} {ρ : Env} {F : Fp} {σ : St} {H : Hp} {Q : VK} {P : PyData → Prop} (env : EnvR X.K H S σ ρ F) (h : post (f ρ) P (stE (wh X cl W) H F))
    (hP : ∀ d v H' S', P d → Grow H (seen S H F fun _ => True) H' S' → Rp X.K S' d v → Q v H') : tD (wh X cl W) f σ H Q :=
  ⟨_, ρ, env.seen_le, env.all, post_mono h (fun d p v H' S' g q => hP d v H' S' p g q) fun _ z => z.e⟩
theorem ss_set_p (hi : i < X.N.length) (asn : PS X st (tAsg (tD (wh X cl W) f) (gName i))) (hk : SndS X cl W rest gk) :
    SndS X cl W (st :: rest) fun ρ => (f ρ).bind fun d => if pure? d then gk (ρ.set i (.sh d)) else .bad := by
  refine pss_impL (pss_cons asn hk) fun D σ H hl h => ?_
  obtain ⟨S, ρ, F, env, h⟩ := tSt_def.mp h
  rw [post_bind] at h
  refine td_all env h fun d v H' S' p g q => ?_
  obtain ⟨hp, p⟩ := post_if2 p
  exact go_on ((env.after g).setSh (by rw [hl]; exact hi) (env.pure_up g hp q)) (env.chg g) put_up (by simp) p
theorem ss_set_f (hi : i < X.N.length) (asn : PS X st (tAsg (tDF (wh X cl W) f) (gName i))) (hk : SndS X cl W rest gk) :
    SndS X cl W (st :: rest) fun ρ => (f ρ).bind fun d => (match d with
      | .list ds => if decide (i < ρ.length) && pures ds then gk (ρ.set i (.o1 ds)) else .bad
      | _ => .bad) := by
  refine pss_impL (pss_cons asn hk) fun D σ H hl h => ?_
  obtain ⟨S, ρ, F, env, h⟩ := tSt_def.mp h
  rw [post_bind] at h
  refine ⟨_, ρ, env.seen_le, env.all, post_mono h (fun d p => ?_) fun _ z => z.e⟩
  cases d <;> try exact p.elim
  rename_i ds
  intro q vs H' S' g e1 n s r
  obtain ⟨hp, p⟩ := post_if2 p
  simp only [Bool.and_eq_true, decide_eq_true_eq] at hp
  have hq : ∀ j, q ∉ F j := fun j hj => by
    obtain ⟨⟨_, z⟩, _⟩ := env.lst ⟨j, hj⟩
    rw [n] at z; cases z
  have e2 : less S' F (fun _ => True) q = none := by
    cases z : less S' F (fun _ => True) q with
    | none => rfl
    | some o => rw [less_sub q o z] at s; cases s
  exact go_on ((env.after g).setO1 (by rw [hl]; exact hi) hp.1 e1 (fun j _ => hq j) e2 (env.pures_up g hp.2 r)) (env.chg g) (put_new n) (by simp) p
end

/-! ### lists given up -/
section
variable {K : PySem.W.Frag} {H S H' S' : Hp} {σ : St} {ρ : Env} {F : Fp} {P : Nat → Prop}
theorem hideAt_get {fz : List Nat} : ∀ {ρ : Env} {n i : Nat} {s : Sl} {d : PyData}, (hideAt fz n ρ)[i]? = some s → s.val = some d → ∃ s', ρ[i]? = some s' ∧ s'.val = some d ∧ (n + i ∈ fz ∨ ∃ d, s' = .sh d)
  | [], n, i, s, d, h, _ => by simp [hideAt] at h
  | s0 :: r, n, i, s, d, h, hv => by
    cases i with
    | zero =>
      simp only [hideAt, List.getElem?_cons_zero, Option.some.injEq] at h
      refine ⟨s0, rfl, ?_⟩
      cases s0 with
      | un => subst h; cases hv
      | sh d' => subst h; exact ⟨hv, .inr ⟨_, rfl⟩⟩
      | o1 ds =>
        dsimp only at h
        split at h
        · rename_i c; subst h; exact ⟨hv, .inl (by simpa using c)⟩
        · subst h; cases hv
      | o2 ds =>
        dsimp only at h
        split at h
        · rename_i c; subst h; exact ⟨hv, .inl (by simpa using c)⟩
        · subst h; cases hv
    | succ i =>
      simp only [hideAt, List.getElem?_cons_succ] at h
      obtain ⟨s', e1, e2, e3⟩ := hideAt_get h hv
      refine ⟨s', by simpa using e1, e2, ?_⟩
      rcases e3 with z | z
      · exact .inl (by have e : n + (i + 1) = n + 1 + i := by omega
                       rw [e]; exact z)
      · exact .inr z
theorem EnvR.hid (h : EnvR K H S σ ρ F) (fz : List Nat) : ShR K (seen S H F (· ∈ fz)) σ (hideAt fz 0 ρ) := h.shr fun i s d e1 e2 => by
  obtain ⟨s', q1, q2, q3⟩ := hideAt_get e1 e2
  refine ⟨s', q1, q2, ?_⟩
  rcases q3 with z | ⟨d, z⟩
  · exact .inl (by simpa using z)
  · subst z
    exact .inr (h.slot i _ q1).1
theorem give_get {fz : List Nat} {i : Nat} : (give fz ρ)[i]? = if i ∈ fz then (ρ[i]?).map giveUp else ρ[i]? := by
  induction fz with
  | nil => simp [give]
  | cons j r ih =>
    unfold give
    cases e : ρ[j]? with
    | none =>
      dsimp only
      rw [ih]
      by_cases c : i = j
      · subst c; simp [e]
      · simp [c]
    | some s =>
      dsimp only
      have hl : (give r ρ).length = ρ.length := by
        clear ih e
        induction r with
        | nil => rfl
        | cons k r ih =>
          unfold give
          split
          · rw [List.length_set]; exact ih
          · exact ih
      by_cases c : j = i
      · subst c
        have hj : j < ρ.length := (List.getElem?_eq_some_iff.mp e).1
        rw [List.getElem?_set_self (by rw [hl]; exact hj), if_pos List.mem_cons_self, e]
        rfl
      · rw [List.getElem?_set_ne c, ih]
        by_cases q : i ∈ r
        · rw [if_pos q, if_pos (List.mem_cons_of_mem _ q)]
        · rw [if_neg q, if_neg (by simp; exact ⟨fun z => c z.symm, q⟩)]
theorem give_length {fz : List Nat} : (give fz ρ).length = ρ.length := by
  induction fz with
  | nil => rfl
  | cons k r ih =>
    unfold give
    split
    · rw [List.length_set]; exact ih
    · exact ih
def drp (F : Fp) (fz : List Nat) : Fp := fun i => if i ∈ fz then [] else F i
theorem drp_up {fz : List Nat} : FpUp F (drp F fz) H := fun b ⟨j, hj⟩ => by
  unfold drp at hj
  split at hj
  · cases hj
  · exact .inr ⟨j, hj⟩
theorem EnvR.given (h : EnvR K H S σ ρ F) {fz : List Nat} (g : Grow H (seen S H F (· ∈ fz)) H' S') : EnvR K H' S' σ (give fz ρ) (drp F fz) where
  sub := g.in_
  slot := fun i s e => by
    rw [give_get] at e
    unfold drp
    by_cases c : i ∈ fz
    · rw [if_pos c] at e ⊢
      cases q : ρ[i]? with
      | none => rw [q] at e; cases e
      | some s0 =>
        rw [q] at e
        have e : giveUp s0 = s := Option.some.inj e
        subst e
        unfold giveUp
        cases v : s0.val with
        | none => exact rfl
        | some d =>
          have sh : ShR K (seen S H F (· ∈ fz)) σ ρ ∨ True := .inr trivial
          have one : ShR K (seen S H F (· ∈ fz)) σ ((List.replicate i Sl.un) ++ [s0]) := h.shr fun j s d' e1 e2 => by
            by_cases cj : j = i
            · subst cj
              rw [List.getElem?_append_right (by simp)] at e1
              simp at e1
              subst e1
              exact ⟨s0, q, e2, .inl c⟩
            · by_cases lj : j < i
              · rw [List.getElem?_append_left (by simpa using lj), List.getElem?_replicate] at e1
                rw [if_pos lj] at e1
                cases e1
                cases e2
              · rw [List.getElem?_eq_none (by simp; omega)] at e1
                cases e1
          obtain ⟨u, h1, h2⟩ := one i s0 d (by rw [List.getElem?_append_right (by simp)]; simp) v
          exact ⟨rfl, u, h1, Rp.sub g.s d u h2⟩
    · rw [if_neg c] at e ⊢
      exact (h.slot i s e).mono (fun b _ u q => g.h b u q) (h.seen_sub.trans g.s)
  out := fun i e => by
    unfold drp
    by_cases c : i ∈ fz
    · rw [if_pos c]
    · rw [if_neg c]
      rw [give_get, if_neg c] at e
      exact h.out i e
  nd := fun i => by
    unfold drp
    split
    · exact List.nodup_nil
    · exact h.nd i
  apart := fun i j a ha hb => by
    unfold drp at ha hb
    split at ha
    · cases ha
    · split at hb
      · cases hb
      · exact h.apart i j a ha hb
  free := fun i a ha => by
    unfold drp at ha
    split at ha
    · cases ha
    · rename_i c
      cases q : S' a with
      | none => rfl
      | some o =>
        have no : ¬ ∃ j, j ∈ fz ∧ a ∈ F j := fun ⟨j, hj, hm⟩ => c (by rw [h.apart i j a ha hm]; exact hj)
        have z := g.new a (by rw [seen_out no]; exact h.free i a ha) (by rw [q]; simp)
        obtain ⟨⟨vs, e⟩, _⟩ := h.lst ⟨i, ha⟩
        rw [e] at z; cases z
theorem EnvR.chgZ (h : EnvR K H S σ ρ F) (g : Grow H (seen S H F P) H' S') : Chg F H S H' S' := by
  refine ⟨fun b o e _ => g.h b o e, h.seen_sub.trans g.s, fun b e n => ?_⟩
  by_cases c : ∃ i, P i ∧ b ∈ F i
  · exact .inr ⟨c.choose, c.choose_spec.2⟩
  · exact .inl (g.new b (by rw [seen_out c]; exact e) n)
end
section
variable {X : Cx} {cl : Nat → Value} {W : WX} {st : Stmt} {rest body other : List Stmt} {e a b c : Expr} {f fa fb fc : Env → R PyData} {gk ga gb : Env → R Fl} {pos : Pos} {i : Nat}
theorem FpUp.put {F F1 : Fp} {H : Hp} {i : Nat} (u : FpUp F F1 H) : FpUp F (put F1 i []) H := fun b ⟨j, hj⟩ => by
  unfold DL.put at hj
  split at hj
  · cases hj
  · exact u b ⟨j, hj⟩
theorem FpUp.putN {F F1 : Fp} {H : Hp} {i : Nat} {p : Addr} (u : FpUp F F1 H) (n : H p = none) : FpUp F (DL.put F1 i [p]) H := fun b ⟨j, hj⟩ => by
  unfold DL.put at hj
  split at hj
  · have : b = p := by simpa using hj
    subst this; exact .inl n
  · exact u b ⟨j, hj⟩
theorem ss_set_z (fz : List Nat) (hi : i < X.N.length) (asn : PS X st (tAsg (tD (wh X cl W) f) (gName i))) (hk : SndS X cl W rest gk) :
    SndS X cl W (st :: rest) fun ρ => (f (hideAt fz 0 ρ)).bind fun d => gk ((give fz ρ).set i (.sh d)) := by
  refine pss_impL (pss_cons asn hk) fun D σ H hl h => ?_
  obtain ⟨S, ρ, F, env, h⟩ := tSt_def.mp h
  rw [post_bind] at h
  refine ⟨_, hideAt fz 0 ρ, env.seen_le, env.hid fz, post_mono h (fun d p v H' S' g q => ?_) fun _ z => z.e⟩
  exact go_on ((env.given g).setSh (by rw [hl]; exact hi) q) (env.chgZ g) (FpUp.put drp_up) (by simp) p
theorem ss_set_fz (fz : List Nat) (hi : i < X.N.length) (asn : PS X st (tAsg (tDF (wh X cl W) f) (gName i))) (hk : SndS X cl W rest gk) :
    SndS X cl W (st :: rest) fun ρ => (f (hideAt fz 0 ρ)).bind fun d => (match d with
      | .list ds => if i < ρ.length then gk ((give fz ρ).set i (.o1 ds)) else .bad
      | _ => .bad) := by
  refine pss_impL (pss_cons asn hk) fun D σ H hl h => ?_
  obtain ⟨S, ρ, F, env, h⟩ := tSt_def.mp h
  rw [post_bind] at h
  refine ⟨_, hideAt fz 0 ρ, env.seen_le, env.hid fz, post_mono h (fun d p => ?_) fun _ z => z.e⟩
  cases d <;> try exact p.elim
  intro q vs H' S' g e1 n s r
  obtain ⟨hp, p⟩ := post_if2 p
  have hq : ∀ j, q ∉ drp F fz j := fun j hj => by
    rcases drp_up (F := F) (H := H) q ⟨j, hj⟩ with z | z
    · obtain ⟨_, e⟩ := (env.given g).lst ⟨j, hj⟩
      unfold drp at hj
      split at hj
      · cases hj
      · obtain ⟨⟨_, z2⟩, _⟩ := env.lst ⟨j, hj⟩
        rw [n] at z2; cases z2
    · obtain ⟨⟨_, z2⟩, _⟩ := env.lst z
      rw [n] at z2; cases z2
  exact go_on ((env.given g).setO1 (by rw [hl]; exact hi) (by rw [give_length]; exact hp) e1 (fun j _ => hq j) s r) (env.chgZ g) (FpUp.putN drp_up n) (by simp) p
end
end DL
namespace DL
open PySem PySem.Spec PyProof.Rows L2
open Classical

def putA (F : Fp) : List Nat → Fp
  | [] => F
  | i :: is => putA (put F i []) is
theorem putA_up {H : Hp} : ∀ {is : List Nat} {F F0 : Fp}, FpUp F0 F H → FpUp F0 (putA F is) H
  | [], _, _, u => u
  | i :: is, F, F0, u => putA_up (is := is) (FpUp.put u)
theorem EnvR.setMany {K : PySem.W.Frag} {H S : Hp} : ∀ {is : List Nat} {ds : List PyData} {vs : List V} {σ : St} {ρ : Env} {F : Fp}, EnvR K H S σ ρ F → RpA K S ds vs → ds.length = is.length → (∀ i ∈ is, i < σ.length) → EnvR K H S (setAll is vs σ) (DL.setMany is ds ρ) (putA F is)
  | [], [], vs, σ, ρ, F, h, r, _, _ => by
    simp only [RpA] at r
    subst r
    simpa only [setAll, DL.setMany, putA] using h
  | [], _ :: _, _, _, _, _, _, _, e, _ => by simp at e
  | _ :: _, [], _, _, _, _, _, _, e, _ => by simp at e
  | i :: is, d :: ds, vs, σ, ρ, F, h, r, e, hl => by
    simp only [RpA] at r
    obtain ⟨v, r', e1, q1, q2⟩ := r
    subst e1
    simp only [setAll, DL.setMany, putA]
    exact EnvR.setMany (h.setSh (hl i List.mem_cons_self) q1) q2 (by simpa using e) fun j hj => by rw [List.length_set]; exact hl j (List.mem_cons_of_mem _ hj)
theorem bindMany_set : ∀ {is : List Nat} {ds : List PyData} {ρ ρ' : Env}, bindMany is ds ρ = some ρ' → ρ' = setMany is ds ρ
  | [], [], _, _, e => by simp only [bindMany, Option.some.injEq] at e; subst e; simp only [setMany]
  | [], _ :: _, _, _, e => by simp [bindMany] at e
  | _ :: _, [], _, _, e => by simp [bindMany] at e
  | i :: is, d :: ds, ρ, ρ', e => by simp only [bindMany] at e; simp only [setMany]; exact bindMany_set e
/-- a target takes a datum, beside lists of one's own -/
theorem gT_env {K : PySem.W.Frag} {S H : Hp} {t : Tg} {d : PyData} {v : V} {σ : St} {ρ ρ' : Env} {F : Fp} {Q : St → Hp → Prop} (h : EnvR K H S σ ρ F) (hl : ∀ i ∈ t.all, i < σ.length) (hr : Rp K S d v) (e : bindT t d ρ = some ρ')
    (hQ : ∀ σ' F', EnvR K H S σ' ρ' F' → FpUp F F' H → σ'.length = σ.length → Q σ' H) : gT K t v σ H Q := by
  cases t with
  | one i =>
    simp only [bindT, Option.some.injEq] at e
    subst e
    exact hQ _ _ (h.setSh (hl i (by simp [Tg.all])) hr) put_up (by simp)
  | many is =>
    cases d <;> simp only [bindT] at e <;> try cases e
    rename_i ds
    simp only [Rp] at hr
    obtain ⟨a, vs, rfl, ha, ra⟩ := hr
    have e2 := bindMany_set e
    subst e2
    have hlen := bindMany_length e
    exact ⟨a, vs, rfl, SqT.sub h.sub ha, by rw [ra.length, hlen], hQ _ _ (h.setMany ra hlen hl) (putA_up fun b hb => .inr hb) (setAll_length _ _ _)⟩
section
variable {X : Cx} {cl : Nat → Value} {W : WX} {st : Stmt} {rest body other : List Stmt} {e a b c tg : Expr} {es : List Expr} {f fa fb fc : Env → R PyData} {gk ga gb : Env → R Fl} {pos : Pos} {i j l : Nat}
theorem tda_all {S : Hp} {ρ : Env} {F : Fp} {σ : St} {H : Hp} {Q : List V → Hp → Prop} {P : PyData → Prop} (env : EnvR X.K H S σ ρ F) (h : post (f ρ) P (stE (wh X cl W) H F))
    (ht : ∀ d, P d → ∃ ds, d = .tuple ds) (hP : ∀ ds vs H' S', P (.tuple ds) → Grow H (seen S H F fun _ => True) H' S' → RpA X.K S' ds vs → Q vs H') : tDA (wh X cl W) f σ H Q :=
  ⟨_, ρ, env.seen_le, env.all, post_mono h (fun d p => by
    obtain ⟨ds, e⟩ := ht d p
    subst e
    exact fun vs H' S' g q => hP ds vs H' S' p g q) fun _ z => z.e⟩
/-- names = values, side by side: kept as they are -/
def parD (is : List Nat) (gk : Env → R Fl) (ρ : Env) (x : PyData) : R Fl := match x with
  | .tuple ds => if pures ds && decide (ds.length = is.length) then gk (setMany is ds ρ) else .bad
  | _ => .bad
theorem ss_par {is : List Nat} {t : TS} (hl : ∀ i ∈ is, i < X.N.length) (asn : PS X st t) (ha : ∀ D σ H, tDA (wh X cl W) f σ H (fun vs H1 => vs.length = is.length ∧ D.nx (setAll is vs σ) H1) → t D σ H) (hk : SndS X cl W rest gk) :
    SndS X cl W (st :: rest) fun ρ => (f ρ).bind (parD is gk ρ) := by
  refine pss_impL (pss_cons asn hk) fun D σ H hlen h => ?_
  obtain ⟨S, ρ, F, env, h⟩ := tSt_def.mp h
  rw [post_bind] at h
  refine ha _ _ _ (tda_all env h (fun d p => ?_) fun ds vs H' S' p g q => ?_)
  · cases d <;> first | exact p.elim | exact ⟨_, rfl⟩
  · obtain ⟨hp, p⟩ := post_if2 p
    simp only [Bool.and_eq_true, decide_eq_true_eq] at hp
    refine ⟨by rw [q.length]; exact hp.2, ?_⟩
    exact go_on ((env.after g).setMany (env.pures_up g hp.1 q) hp.2 fun i hi => by rw [hlen]; exact hl i hi) (env.chg g) (putA_up fun b hb => .inr hb) (setAll_length _ _ _) p
/-- names = values, side by side: with the slots fz given up -/
def parZ (fz is : List Nat) (gk : Env → R Fl) (ρ : Env) (x : PyData) : R Fl := match x with
  | .tuple ds => if decide (ds.length = is.length) then gk (setMany is ds (give fz ρ)) else .bad
  | _ => .bad
theorem ss_parz (fz : List Nat) {is : List Nat} {t : TS} (hl : ∀ i ∈ is, i < X.N.length) (asn : PS X st t) (ha : ∀ D σ H, tDA (wh X cl W) f σ H (fun vs H1 => vs.length = is.length ∧ D.nx (setAll is vs σ) H1) → t D σ H) (hk : SndS X cl W rest gk) :
    SndS X cl W (st :: rest) fun ρ => (f (hideAt fz 0 ρ)).bind (parZ fz is gk ρ) := by
  refine pss_impL (pss_cons asn hk) fun D σ H hlen h => ?_
  obtain ⟨S, ρ, F, env, h⟩ := tSt_def.mp h
  rw [post_bind] at h
  refine ha _ _ _ ⟨_, hideAt fz 0 ρ, env.seen_le, env.hid fz, post_mono h (fun d p => ?_) fun _ z => z.e⟩
  cases d <;> try exact p.elim
  intro vs H' S' g q
  obtain ⟨hp, p⟩ := post_if2 p
  have hp := of_decide_eq_true hp
  refine ⟨by rw [q.length]; exact hp, ?_⟩
  exact go_on ((env.given g).setMany q hp fun i hi => by rw [hlen]; exact hl i hi) (env.chgZ g) (putA_up drp_up) (setAll_length _ _ _) p
theorem par2 {D : Ends} {σ : St} {H : Hp} (h : tDA (wh X cl W) f σ H (fun vs H1 => vs.length = [i, j].length ∧ D.nx (setAll [i, j] vs σ) H1)) : tPar i j (tDA (wh X cl W) f) D σ H := by
  obtain ⟨S, ρ, hS, hr, h⟩ := h
  refine ⟨S, ρ, hS, hr, post_mono h (fun d p => ?_) fun _ z => z⟩
  cases d <;> try exact p.elim
  intro vs H' S' g q
  obtain ⟨e, p⟩ := p vs H' S' g q
  match vs, e, p with
  | [v, w], _, p => exact ⟨v, w, rfl, p⟩
theorem par3 {D : Ends} {σ : St} {H : Hp} (h : tDA (wh X cl W) f σ H (fun vs H1 => vs.length = [i, j, l].length ∧ D.nx (setAll [i, j, l] vs σ) H1)) : tPar3 i j l (tDA (wh X cl W) f) D σ H := by
  obtain ⟨S, ρ, hS, hr, h⟩ := h
  refine ⟨S, ρ, hS, hr, post_mono h (fun d p => ?_) fun _ z => z⟩
  cases d <;> try exact p.elim
  intro vs H' S' g q
  obtain ⟨e, p⟩ := p vs H' S' g q
  match vs, e, p with
  | [u, v, w], _, p => exact ⟨u, v, w, rfl, p⟩
/-- target = value -/
def unpD (t : Tg) (gk : Env → R Fl) (ρ : Env) (d : PyData) : R Fl := if pure? d then (match bindT t d ρ with
  | some ρ' => gk ρ'
  | none => .bad) else .bad
theorem ss_unp {t : Tg} (hl : ∀ i ∈ t.all, i < X.N.length) (asn : PS X st (tAsg (tD (wh X cl W) f) (gT X.K t))) (hk : SndS X cl W rest gk) :
    SndS X cl W (st :: rest) fun ρ => (f ρ).bind (unpD t gk ρ) := by
  refine pss_impL (pss_cons asn hk) fun D σ H hlen h => ?_
  obtain ⟨S, ρ, F, env, h⟩ := tSt_def.mp h
  rw [post_bind] at h
  refine td_all env h fun d v H' S' p g q => ?_
  obtain ⟨hp, p⟩ := post_if2 p
  cases e : bindT t d ρ with
  | none => rw [e] at p; exact p.elim
  | some ρ' =>
    rw [e] at p
    exact gT_env (env.after g) (fun i hi => by rw [hlen]; exact hl i hi) (env.pure_up g hp q) e fun σ' F' env' u l => go_on env' (env.chg g) (fun b hb => (u b hb).imp (fun z => Sub.none g.h z) id) l p
/-- target = value, with the slots fz given up -/
def unpZ (fz : List Nat) (t : Tg) (gk : Env → R Fl) (ρ : Env) (d : PyData) : R Fl := match bindT t d (give fz ρ) with
  | some ρ' => gk ρ'
  | none => .bad
theorem ss_unpz (fz : List Nat) {t : Tg} (hl : ∀ i ∈ t.all, i < X.N.length) (asn : PS X st (tAsg (tD (wh X cl W) f) (gT X.K t))) (hk : SndS X cl W rest gk) :
    SndS X cl W (st :: rest) fun ρ => (f (hideAt fz 0 ρ)).bind (unpZ fz t gk ρ) := by
  refine pss_impL (pss_cons asn hk) fun D σ H hlen h => ?_
  obtain ⟨S, ρ, F, env, h⟩ := tSt_def.mp h
  rw [post_bind] at h
  refine ⟨_, hideAt fz 0 ρ, env.seen_le, env.hid fz, post_mono h (fun d p v H' S' g q => ?_) fun _ z => z.e⟩
  unfold unpZ at p
  cases e : bindT t d (give fz ρ) with
  | none => rw [e] at p; exact p.elim
  | some ρ' =>
    rw [e] at p
    exact gT_env (env.given g) (fun i hi => by rw [hlen]; exact hl i hi) q e fun σ' F' env' u l => go_on env' (env.chgZ g) (FpUp.trans (env.chgZ g) drp_up fun b hb => by
      rcases u b hb with z | z
      · exact .inl z
      · exact .inr z) l p
theorem ss_expr (asn : PS X st (tDrop (tD (wh X cl W) f))) (hk : SndS X cl W rest gk) : SndS X cl W (st :: rest) fun ρ => (f ρ).bind fun _ => gk ρ := by
  refine pss_impL (pss_cons asn hk) fun D σ H hl h => ?_
  obtain ⟨S, ρ, F, env, h⟩ := tSt_def.mp h
  rw [post_bind] at h
  exact td_all env h fun d v H' S' p g q => go_on (env.after g) (env.chg g) (fun b hb => .inr hb) rfl p
theorem ss_ret (asn : PS X st (tRet (tD (wh X cl W) f))) : SndS X cl W (st :: rest) fun ρ => (f ρ).bind fun d => .ok (.ret d) := by
  refine pss_impL (pss_cons asn (pss_never (X := X) (sts := rest))) fun D σ H hl h => ?_
  obtain ⟨S, ρ, F, env, h⟩ := tSt_def.mp h
  rw [post_bind] at h
  exact td_all env h fun d v H' S' p g q => p v H' S' g.in_ (env.chgZ g) q
end
end DL
namespace DL
open PySem PySem.Spec PyProof.Rows L2
open Classical

section
variable {K : PySem.W.Frag} {H S H' S' : Hp} {σ : St} {ρ : Env} {F : Fp} {P : Nat → Prop}
theorem EnvR.grow (h : EnvR K H S σ ρ F) (g : Grow H S H' S') : EnvR K H' S' σ ρ F where
  sub := g.in_
  slot := fun i s e => (h.slot i s e).mono (fun b _ u q => g.h b u q) g.s
  out := h.out
  nd := h.nd
  apart := h.apart
  free := fun i a ha => by
    cases q : S' a with
    | none => rfl
    | some o =>
      have z := g.new a (h.free i a ha) (by rw [q]; simp)
      obtain ⟨⟨vs, e⟩, _⟩ := h.lst ⟨i, ha⟩
      rw [e] at z; cases z
theorem chg_grow (g : Grow H S H' S') : Chg F H S H' S' := ⟨fun b o e _ => g.h b o e, g.s, fun b e n => .inl (g.new b e n)⟩
/-- a list of one's own is changed -/
theorem EnvR.poke (h : EnvR K H S σ ρ F) {i : Nat} {ds ds' : List PyData} {a : Addr} {vs' : List V} (e : ρ[i]? = some (.o1 ds)) (ha : F i = [a]) (hσ : σ[i]? = some (some (.ref a))) (hr : RpA K S ds' vs') :
    EnvR K (upd H a (.lst vs')) S σ (ρ.set i (.o1 ds')) F where
  sub := fun b o q => by
    rw [upd_ne (fun z => by rw [z, h.free i a (by rw [ha]; simp)] at q; cases q)]
    exact h.sub b o q
  slot := fun j s q => by
    have hi : i < ρ.length := (List.getElem?_eq_some_iff.mp e).1
    by_cases c : i = j
    · subst c
      rw [List.getElem?_set_self hi] at q
      cases q
      exact ⟨a, vs', ha, hσ, upd_same, hr⟩
    · rw [List.getElem?_set_ne c] at q
      exact (h.slot j s q).mono (fun b hb u z => by
        rw [upd_ne (fun z2 => c (by subst z2; exact h.apart i j b (by rw [ha]; simp) hb))]
        exact z) (Sub.refl _)
  out := fun j q => by
    by_cases c : i = j
    · subst c
      have hi : i < ρ.length := (List.getElem?_eq_some_iff.mp e).1
      rw [List.getElem?_set_self hi] at q; cases q
    · rw [List.getElem?_set_ne c] at q
      exact h.out j q
  nd := h.nd
  apart := h.apart
  free := h.free
theorem chg_poke {i : Nat} {a : Addr} {vs' : List V} (ha : F i = [a]) : Chg F H S (upd H a (.lst vs')) S := ⟨fun b o e n => by
    rw [upd_ne (fun z => n (by subst z; exact ⟨i, by rw [ha]; simp⟩))]; exact e, Sub.refl _, fun b e n => absurd e n⟩
theorem EnvR.own (h : EnvR K H S σ ρ F) {i : Nat} {ds : List PyData} (e : ρ[i]? = some (.o1 ds)) : ∃ a vs, F i = [a] ∧ σ[i]? = some (some (.ref a)) ∧ H a = some (.lst vs) ∧ RpA K S ds vs := h.slot i _ e
end
section
variable {w : Wh} {D : Ends} {n : Nat} {H S H1 S1 : Hp} {F F1 : Fp}
theorem go_onN {f : Env → R Fl} {σ1 : St} {ρ1 : Env} (env : EnvR w.K H1 S1 σ1 ρ1 F1) (c : Chg F H S H1 S1) (u : FpUp F F1 H) (l : σ1.length = n)
    (h : post (f ρ1) (stP w D n H S F) (stE w H F)) : tSt w f D σ1 H1 := by
  subst l
  exact go_on env c u rfl h
/-- one behind another -/
theorem st_seq {r : R Fl} {gk : Env → R Fl} (h : post (R.next r gk) (stP w D n H S F) (stE w H F)) : post r (stP w { D with nx := tSt w gk D } n H S F) (stE w H F) := by
  unfold R.next at h
  rw [post_bind] at h
  refine post_mono h (fun x q => ?_) fun _ z => z
  cases x with
  | next ρ' => exact fun σ' H' S' F' env c u l => go_onN env c u l q
  | ret d => exact fun v H' S' s c r => q v H' S' s c r
end
section
variable {X : Cx} {cl : Nat → Value} {W : WX} {st : Stmt} {rest body other : List Stmt} {e a b c tg : Expr} {es : List Expr} {f fa fb fc : Env → R PyData} {gk ga gb : Env → R Fl} {pos : Pos} {i j l : Nat}
def appD (i : Nat) (gk : Env → R Fl) (ρ : Env) (d : PyData) : R Fl := if pure? d then (match ρ[i]? with
  | some (.o1 ds) => if ds.length < big then gk (ρ.set i (.o1 (ds ++ [d]))) else .bad
  | _ => .bad) else .bad
theorem bigSz {n : Nat} (h : n < big) : n < sizeLine := Nat.lt_of_lt_of_le h bigLine
theorem ss_app {ta : TA} (asn : PS X st (tDrop (tBM X.K "list" rAppend (tVar i) ta))) (ht : ∀ σ H Q, tD (wh X cl W) f σ H (fun v H1 => Q [v] H1) → ta σ H Q) (hk : SndS X cl W rest gk) :
    SndS X cl W (st :: rest) fun ρ => match ρ[i]? with
      | some (.o1 _) => (f ρ).bind (appD i gk ρ)
      | _ => .bad := by
  refine pss_impL (pss_cons asn hk) fun D σ H hl h => ?_
  obtain ⟨S, ρ, F, env, h⟩ := tSt_def.mp h
  split at h <;> try exact h.elim
  rename_i ds0 e0
  rw [post_bind] at h
  obtain ⟨a, vs, ha, hσ, eh, er⟩ := env.own e0
  refine ⟨_, hσ, .inl ⟨rfl, vs, SqL.ofS eh⟩, ht _ _ _ (td_all env h fun d v H' S' p g q => ?_)⟩
  obtain ⟨hp, p⟩ := post_if2 p
  rw [e0] at p
  obtain ⟨hz, p⟩ := post_if2 p
  have env1 := env.after g
  have q1 := env.pure_up g hp q
  obtain ⟨a', vs', ha', hσ', eh', er'⟩ := env1.own e0
  have : a' = a := by rw [ha] at ha'; simpa using ha'.symm
  subst this
  refine ⟨_, vs', v, rfl, rfl, eh', by rw [er'.length]; exact bigSz hz, ?_⟩
  exact go_on (env1.poke e0 ha' hσ' (er'.append (RpA.cons q1 RpA.nil))) ((env.chg g).trans (fun b hb => .inr hb) (chg_poke ha')) (fun b hb => .inr hb) rfl p
def stoD (i : Nat) (gk : Env → R Fl) (ρ : Env) (d j : PyData) : R Fl := match j, ρ[i]? with
  | .int j', some (.o1 ds) => (match L2.ixN ds.length j' with
    | some n => gk (ρ.set i (.o1 (ds.set n d)))
    | none => .bad)
  | _, _ => .bad
theorem stP.same {w : Wh} {D : Ends} {n : Nat} {H S H1 S1 : Hp} {F : Fp} (c : Chg F H S H1 S1) {r : R Fl} (h : post r (stP w D n H S F) (stE w H F)) : post r (stP w D n H1 S1 F) (stE w H1 F) :=
  post_mono h (fun _ z => z.up c fun b hb => .inr hb) fun _ z => z.up c fun b hb => .inr hb
theorem ss_sto (asn : PS X st (tAsg (tD (wh X cl W) f) (gSub (tVar i) (tD (wh X cl W) fa) rSetL))) (hk : SndS X cl W rest gk) :
    SndS X cl W (st :: rest) fun ρ => match ρ[i]? with
      | some (.o1 _) => (f ρ).bind fun d => if pure? d then (fa ρ).bind (stoD i gk ρ d) else .bad
      | _ => .bad := by
  refine pss_impL (pss_cons asn hk) fun D σ H hl h => ?_
  obtain ⟨S, ρ, F, env, h⟩ := tSt_def.mp h
  split at h <;> try exact h.elim
  rename_i ds0 e0
  rw [post_bind] at h
  refine td_all env h fun d v H1 S1 p g q => ?_
  obtain ⟨hp, p⟩ := post_if2 p
  have env1 := env.after g
  have q1 := env.pure_up g hp q
  rw [post_bind] at p
  obtain ⟨a0, vs0, ha0, hσ0, _, _⟩ := env1.own e0
  refine ⟨_, hσ0, ?_⟩
  have p' : post (fa ρ) (fun j => post (stoD i gk ρ d j) (stP (wh X cl W) D σ.length H S F) (stE (wh X cl W) H F)) (stE (wh X cl W) H1 F) := post_mono p (fun _ z => z) fun _ z => z.up (env.chg g) fun b hb => .inr hb
  refine td_all env1 p' fun jd jv H2 S2 p2 g2 q2 => ?_
  have env2 := env1.after g2
  have q3 : Rp X.K (DL.less S2 F fun _ => True) d v := Rp.sub (env1.less_up ((env1.seen_sub).trans g2.s)) d v q1
  unfold stoD at p2
  rw [e0] at p2
  cases jd <;> try exact p2.elim
  rename_i j'
  cases rp_int q2
  dsimp only at p2
  cases en : L2.ixN ds0.length j' with
  | none => rw [en] at p2; exact p2.elim
  | some n =>
    rw [en] at p2
    obtain ⟨a, vs, ha, hσ, eh, er⟩ := env2.own e0
    have : a0 = a := by rw [ha] at ha0; simpa using ha0.symm
    subst this
    refine ⟨_, vs, j', n, rfl, rfl, eh, by rw [er.length]; exact en, ?_⟩
    have c1 := (env.chg g).trans (fun b hb => .inr hb) (env1.chg g2)
    exact go_on (env2.poke e0 ha hσ (er.set n q3)) (c1.trans (fun b hb => .inr hb) (chg_poke ha)) (fun b hb => .inr hb) rfl p2
def augOp (o : Bop) (a b : Int) : Int := match o with
  | .add => a + b
  | _ => a - b
def augD (o : Bop) (i : Nat) (gk : Env → R Fl) (ρ : Env) (a : Int) (y : PyData) : R Fl := match y with
  | .int b => gk (ρ.set i (.sh (.int (augOp o a b))))
  | _ => .bad
theorem ss_aug {o : Bop} (hi : i < X.N.length) (asn : PS X st (tAug i (tD (wh X cl W) f) (ipI (augOp o)))) (hk : SndS X cl W rest gk) :
    SndS X cl W (st :: rest) fun ρ => match ρ[i]? with
      | some (.sh (.int a)) => (f ρ).bind (augD o i gk ρ a)
      | _ => .bad := by
  refine pss_impL (pss_cons asn hk) fun D σ H hl h => ?_
  obtain ⟨S, ρ, F, env, h⟩ := tSt_def.mp h
  split at h <;> try exact h.elim
  rename_i a e0
  rw [post_bind] at h
  obtain ⟨hF, v0, e1, r1⟩ := env.slot i _ e0
  cases rp_int r1
  refine ⟨_, e1, td_all env h fun d v H1 S1 p g q => ?_⟩
  cases d <;> try exact p.elim
  rename_i b
  cases rp_int q
  exact ⟨a, b, rfl, rfl, go_on ((env.after g).setSh (by rw [hl]; exact hi) (rpI _)) (env.chg g) put_up (by simp) p⟩
theorem ss_ite (asn : PS X st (tIfS (tDT (wh X cl W) fun ρ => (fc ρ).bind truth) (tSt (wh X cl W) ga) (tSt (wh X cl W) gb))) (hk : SndS X cl W rest gk) :
    SndS X cl W (st :: rest) fun ρ => ((fc ρ).bind truth).bind fun t => R.next (if t then ga ρ else gb ρ) gk := by
  refine pss_impL (pss_cons asn hk) fun D σ H hl h => ?_
  obtain ⟨S, ρ, F, env, h⟩ := tSt_def.mp h
  rw [post_bind] at h
  refine ⟨_, ρ, env.seen_le, env.all, post_mono h (fun t p H' S' g => ?_) fun _ z => z.e⟩
  have p := stP.same (env.chg g) (st_seq p)
  cases t with
  | true => exact tSt_def.mpr ⟨_, ρ, F, env.after g, p⟩
  | false => exact tSt_def.mpr ⟨_, ρ, F, env.after g, p⟩
theorem ss_for (fz : List Nat) {t : Tg} (ht : ∀ i ∈ t.all, i < X.N.length) (asn : PS X st (tFor (tDI (wh X cl W) f) (gT X.K t) (tSt (wh X cl W) gb))) (hk : SndS X cl W rest gk) :
    SndS X cl W (st :: rest) fun ρ => (f (hideAt fz 0 ρ)).bind fun x => (match x with
      | .list xs => R.next (forGo t gb xs (give fz ρ)) gk
      | _ => .bad) := by
  refine pss_impL (pss_cons asn hk) fun D σ H hl h => ?_
  obtain ⟨S, ρ, F, env, h⟩ := tSt_def.mp h
  rw [post_bind] at h
  refine ⟨_, hideAt fz 0 ρ, env.seen_le, env.hid fz, post_mono h (fun x p => ?_) fun _ z => z.e⟩
  cases x <;> try exact p.elim
  rename_i xs
  intro J H1 S1 g hJ
  let Wv : Nat → Nat → L2.St → Hp → Prop := fun k m σ' H' => m = xs.length - k ∧ k ≤ xs.length ∧ ∃ ρ' S' F', EnvR X.K H' S' σ' ρ' F' ∧ Sub S1 S' ∧ Chg F H S H' S' ∧ FpUp F F' H ∧ σ'.length = σ.length ∧
    post (R.next (forGo t gb (xs.drop k) ρ') gk) (stP (wh X cl W) D σ.length H S F) (stE (wh X cl W) H F)
  refine ⟨Wv, ⟨xs.length, by omega, Nat.zero_le _, give fz ρ, S1, drp F fz, env.given g, Sub.refl _, env.chgZ g, drp_up, rfl, by rw [List.drop_zero]; exact p⟩, ?_⟩
  rintro k m σ' H' ⟨em, hk', ρ', S', F', env', hs, c, u, l, q⟩
  by_cases hlt : k < xs.length
  · refine .inr ⟨hJ.go H' k (hs.trans env'.sub) hlt, Wv (k + 1) (xs.length - (k + 1)), fun σ2 H2 w2 => ⟨_, by omega, w2⟩, fun v H2 hy => ?_⟩
    have hx : xs[k]? = some xs[k] := List.getElem?_eq_getElem hlt
    obtain ⟨S2, g2, hr⟩ := hJ.yld H' S' k v H2 xs[k] hs env'.sub hx hy
    rw [List.drop_eq_getElem_cons hlt] at q
    unfold forGo at q
    cases eb : bindT t xs[k] ρ' with
    | none => rw [eb] at q; exact q.elim
    | some ρ2 =>
      rw [eb] at q
      refine gT_env (env'.grow g2) (fun i hi => by rw [l, hl]; exact ht i hi) hr eb fun σ3 F3 env3 u3 l3 => ?_
      have cc : Chg F H S H2 S2 := c.trans u (chg_grow g2)
      have uu : FpUp F F3 H := FpUp.trans c u fun b hb => (u3 b hb).imp (fun z => Sub.none g2.h z) id
      refine tSt_def.mpr ⟨S2, ρ2, F3, env3, ?_⟩
      have q : post (R.next ((gb ρ2).bind fun f => (match f with
        | .next ρ'' => forGo t gb (xs.drop (k + 1)) ρ''
        | .ret d => .ok (.ret d))) gk) (stP (wh X cl W) D σ.length H S F) (stE (wh X cl W) H F) := q
      unfold R.next at q
      rw [post_bind, post_bind] at q
      refine post_mono q (fun r z => ?_) fun _ z => z.up cc uu
      cases r with
      | ret d => exact fun v H4 S4 s4 c4 r4 => z v H4 S4 s4 (cc.trans uu c4) r4
      | next ρ4 =>
        intro σ4 H4 S4 F4 env4 c4 u4 l4
        refine ⟨rfl, hlt, ρ4, S4, F4, env4, hs.trans (g2.s.trans c4.s), cc.trans uu c4, FpUp.trans cc uu u4, by omega, ?_⟩
        unfold R.next
        rw [post_bind]
        exact z
  · have e : k = xs.length := by omega
    subst e
    refine .inl ⟨hJ.stop H' (hs.trans env'.sub), ?_⟩
    rw [List.drop_length] at q
    exact go_onN env' c u l q
theorem ss_while (fuel : Nat) (asn : PS X st (tWhile (tDT (wh X cl W) fun ρ => (fc ρ).bind truth) (tSt (wh X cl W) gb))) (hk : SndS X cl W rest gk) :
    SndS X cl W (st :: rest) fun ρ => R.next (whileGo fc gb fuel ρ) gk := by
  refine pss_impL (pss_cons asn hk) fun D σ H hl h => ?_
  obtain ⟨S, ρ, F, env, h⟩ := tSt_def.mp h
  let Wv : Nat → L2.St → Hp → Prop := fun m σ' H' => ∃ ρ' S' F', EnvR X.K H' S' σ' ρ' F' ∧ Chg F H S H' S' ∧ FpUp F F' H ∧ σ'.length = σ.length ∧
    post (R.next (whileGo fc gb m ρ') gk) (stP (wh X cl W) D σ.length H S F) (stE (wh X cl W) H F)
  refine ⟨Wv, ⟨fuel, ρ, S, F, env, Chg.refl, fun b hb => .inr hb, rfl, h⟩, ?_⟩
  rintro m σ' H' ⟨ρ', S', F', env', c, u, l, q⟩
  cases m with
  | zero => exact q.elim
  | succ m =>
    unfold whileGo R.next at q
    rw [post_bind, post_bind] at q
    refine ⟨_, ρ', env'.seen_le, env'.all, post_mono q (fun t p H2 S2 g => ?_) fun _ z => (z.up c u).e⟩
    have env2 := env'.after g
    have c2 := c.trans u (env'.chg g)
    cases t with
    | false =>
      exact go_onN env2 c2 u l p
    | true =>
      rw [if_pos rfl, post_bind] at p
      refine ⟨fun σ3 H3 => Wv m σ3 H3, fun σ3 H3 w3 => ⟨m, Nat.lt_succ_self _, w3⟩, tSt_def.mpr ⟨_, ρ', F', env2, ?_⟩⟩
      refine post_mono p (fun r z => ?_) fun _ z => z.up c2 u
      cases r with
      | ret d => exact fun v H4 S4 s4 c4 r4 => z v H4 S4 s4 (c2.trans u c4) r4
      | next ρ4 =>
        intro σ4 H4 S4 F4 env4 c4 u4 l4
        refine ⟨ρ4, S4, F4, env4, c2.trans u c4, FpUp.trans c2 u u4, by omega, ?_⟩
        unfold R.next
        rw [post_bind]
        exact z
theorem ss_raise {cno : Nat} (asn : PS X st (fun _ σ H => W (cl cno) none σ H)) : SndS X cl W (st :: rest) fun _ => .ex cno := by
  refine pss_impL (pss_cons asn (pss_never (X := X) (sts := rest))) fun D σ H hl h => ?_
  obtain ⟨S, ρ, F, env, h⟩ := tSt_def.mp h
  exact h σ H fun b o e _ => e
/-- slots are forgotten -/
theorem ss_fgt (fz : List Nat) (hk : SndS X cl W rest gk) : SndS X cl W rest fun ρ => gk (wipeE ρ fz) := by
  refine pss_impL hk fun D σ H hl h => ?_
  obtain ⟨S, ρ, F, env, h⟩ := tSt_def.mp h
  have key : ∀ fz : List Nat, ∃ F', EnvR X.K H S σ (wipeE ρ fz) F' ∧ FpUp F F' H := by
    intro fz
    induction fz with
    | nil => exact ⟨F, env, fun b hb => .inr hb⟩
    | cons v vs ih =>
      obtain ⟨F', env', u⟩ := ih
      refine ⟨put F' v [], ?_, FpUp.put u⟩
      show EnvR X.K H S σ ((wipeE ρ vs).set v .un) (put F' v [])
      exact {
        sub := env'.sub
        slot := fun j s' e => by
          unfold put
          by_cases c : v = j
          · subst c
            rw [if_pos rfl]
            by_cases q : v < (wipeE ρ vs).length
            · rw [List.getElem?_set_self q] at e
              cases e
              exact rfl
            · rw [List.getElem?_eq_none (by rw [List.length_set]; omega)] at e
              cases e
          · rw [if_neg (Ne.symm c)]
            rw [List.getElem?_set_ne c] at e
            exact env'.slot j s' e
        out := fun j e => by
          unfold put
          by_cases c : v = j
          · subst c
            rw [if_pos rfl]
          · rw [if_neg (Ne.symm c)]
            rw [List.getElem?_set_ne c] at e
            exact env'.out j e
        nd := fun j => by
          unfold put
          split
          · exact List.nodup_nil
          · exact env'.nd j
        apart := fun j k a ha hb => by
          unfold put at ha hb
          split at ha
          · cases ha
          · split at hb
            · cases hb
            · exact env'.apart j k a ha hb
        free := fun j a ha => by
          unfold put at ha
          split at ha
          · cases ha
          · exact env'.free j a ha }
  obtain ⟨F', env', u⟩ := key fz
  exact go_on env' Chg.refl u rfl h
end
end DL
namespace DL
open PySem PySem.Spec PyProof.Rows L2
open Classical

/-! ### statements -/
/-- how a value is kept: whatever holds no list; a fresh list whose items hold none; with the slots fz given up: any; a fresh list of any items -/
inductive Md where
  | p | f | z (fz : List Nat) | fz (fz : List Nat)
/-- a body that stores nothing -/
inductive IQ where
  | done | expr (e : IE) (k : IQ) | ite (c : IE) (a b k : IQ)
/-- clauses: a class, what is handed back -/
inductive Hs where
  | nil | ret (c : Nat) (e : IE) (r : Hs) | pas (c : Nat) (r : Hs)
inductive IS where
  | done
  | set (m : Md) (i : Nat) (e : IE) (k : IS)
  | par (m : Option (List Nat)) (is : List Nat) (es : IE) (k : IS)
  | par0 (i j : Nat) (k : IS)
  | unp (m : Option (List Nat)) (t : Tg) (e : IE) (k : IS)
  | app (i : Nat) (e : IE) (k : IS)
  | sto (i : Nat) (ix e : IE) (k : IS)
  | aug (o : Bop) (i : Nat) (e : IE) (k : IS)
  | expr (e : IE) (k : IS)
  | ret (e : IE)
  | ite (c : IE) (a b k : IS)
  | for_ (t : Tg) (fz : List Nat) (it : IE) (body k : IS)
  | while_ (n : Nat) (c : IE) (body k : IS)
  | raise (c : Nat)
  | try_ (b : IQ) (hs : Hs) (k : IS)
  | pas (k : IS)
  | fgt (fz : List Nat) (k : IS)

def exq (call : Nat → List PyData → R PyData) (b : IQ) (ρ : Env) : R Unit := match b with
  | .done => .ok ()
  | .expr e k => (ev call e ρ).bind fun _ => exq call k ρ
  | .ite c a b k => ((ev call c ρ).bind truth).bind fun t => (if t then exq call a ρ else exq call b ρ).bind fun _ => exq call k ρ
termination_by structural b
/-- the clause that takes an error of the c-th class: what it gives -/
def exh (call : Nat → List PyData → R PyData) (mt : Nat → Nat → Option Bool) (hs : Hs) (c : Nat) (ρ : Env) : R (Option PyData) := match hs with
  | .nil => .ex c
  | .ret c' e r => (match mt c c' with
    | some true => (ev call e ρ).noEx.bind fun d => .ok (some d)
    | some false => exh call mt r c ρ
    | none => .bad)
  | .pas c' r => (match mt c c' with
    | some true => .ok none
    | some false => exh call mt r c ρ
    | none => .bad)
termination_by structural hs
def setF (i : Nat) (gk : Env → R Fl) (ρ : Env) (d : PyData) : R Fl := match d with
  | .list ds => if decide (i < ρ.length) && pures ds then gk (ρ.set i (.o1 ds)) else .bad
  | _ => .bad
def setFz (fz : List Nat) (i : Nat) (gk : Env → R Fl) (ρ : Env) (d : PyData) : R Fl := match d with
  | .list ds => if i < ρ.length then gk ((give fz ρ).set i (.o1 ds)) else .bad
  | _ => .bad
def par0D (i j : Nat) (gk : Env → R Fl) (ρ : Env) : R Fl := if decide (i < ρ.length) && decide (j < ρ.length) then gk ((ρ.set i (.o1 [])).set j (.o1 [])) else .bad
def forD (t : Tg) (fz : List Nat) (gb gk : Env → R Fl) (ρ : Env) (x : PyData) : R Fl := match x with
  | .list xs => R.next (forGo t gb xs (give fz ρ)) gk
  | _ => .bad
def tryO (gk : Env → R Fl) (ρ : Env) (o : Option PyData) : R Fl := match o with
  | some d => .ok (.ret d)
  | none => gk ρ
def tryD (b : R Unit) (h : Nat → R (Option PyData)) (gk : Env → R Fl) (ρ : Env) : R Fl := match b with
  | .ok _ => gk ρ
  | .ex c => (h c).bind (tryO gk ρ)
  | .bad => .bad
def exec (call : Nat → List PyData → R PyData) (mt : Nat → Nat → Option Bool) (st : IS) (ρ : Env) : R Fl := match st with
  | .done => .ok (.next ρ)
  | .set m i e k => (match m with
    | .p => (ev call e ρ).bind fun d => if pure? d then exec call mt k (ρ.set i (.sh d)) else .bad
    | .f => (ev call e ρ).bind (setF i (exec call mt k) ρ)
    | .z fz => (ev call e (hideAt fz 0 ρ)).bind fun d => exec call mt k ((give fz ρ).set i (.sh d))
    | .fz fz => (ev call e (hideAt fz 0 ρ)).bind (setFz fz i (exec call mt k) ρ))
  | .par m is es k => (match m with
    | none => (ev call es ρ).bind (parD is (exec call mt k) ρ)
    | some fz => (ev call es (hideAt fz 0 ρ)).bind (parZ fz is (exec call mt k) ρ))
  | .par0 i j k => par0D i j (exec call mt k) ρ
  | .unp m t e k => (match m with
    | none => (ev call e ρ).bind (unpD t (exec call mt k) ρ)
    | some fz => (ev call e (hideAt fz 0 ρ)).bind (unpZ fz t (exec call mt k) ρ))
  | .app i e k => (match ρ[i]? with
    | some (.o1 _) => (ev call e ρ).bind (appD i (exec call mt k) ρ)
    | _ => .bad)
  | .sto i ix e k => (match ρ[i]? with
    | some (.o1 _) => (ev call e ρ).bind fun d => if pure? d then (ev call ix ρ).bind (stoD i (exec call mt k) ρ d) else .bad
    | _ => .bad)
  | .aug o i e k => (match ρ[i]? with
    | some (.sh (.int a)) => (ev call e ρ).bind (augD o i (exec call mt k) ρ a)
    | _ => .bad)
  | .expr e k => (ev call e ρ).bind fun _ => exec call mt k ρ
  | .ret e => (ev call e ρ).bind fun d => .ok (.ret d)
  | .ite c a b k => ((ev call c ρ).bind truth).bind fun t => R.next (if t then exec call mt a ρ else exec call mt b ρ) (exec call mt k)
  | .for_ t fz it body k => (ev call it (hideAt fz 0 ρ)).bind (forD t fz (exec call mt body) (exec call mt k) ρ)
  | .while_ n c body k => R.next (whileGo (ev call c) (exec call mt body) n ρ) (exec call mt k)
  | .raise c => .ex c
  | .try_ b hs k => tryD (exq call b ρ) (fun c => exh call mt hs c ρ) (exec call mt k) ρ
  | .pas k => exec call mt k ρ
  | .fgt fz k => exec call mt k (wipeE ρ fz)
termination_by structural st

/-! ### bodies that store nothing -/
def tQ (w : Wh) (f : Env → R Unit) : TS := fun D σ H => ∃ S ρ, Sub S H ∧ ShR w.K S σ ρ ∧ post (f ρ) (fun _ => ∀ H' S', Grow H S H' S' → D.nx σ H') (w.E σ H)
section
variable {X : Cx} {cl : Nat → Value} {W : WX} {st : Stmt} {rest body other : List Stmt} {e a b c tg : Expr} {es : List Expr} {f fa fb fc : Env → R PyData} {gk ga gb : Env → R Fl} {qk qa qb : Env → R Unit} {pos : Pos} {i j l : Nat}
abbrev SndQ (X : Cx) (cl : Nat → Value) (W : WX) (sts : List Stmt) (g : Env → R Unit) : Prop := PSs X sts (tQ (wh X cl W) g)
theorem sq_nil : SndQ X cl W [] fun _ => .ok () := pss_imp pss_nil fun D σ H ⟨S, ρ, hS, hr, h⟩ => h H S (Grow.refl hS)
theorem q_next {D : Ends} {σ : St} {H H' S S' : Hp} {ρ : Env} (hr : ShR X.K S σ ρ) (g : Grow H S H' S') (h : post (qk ρ) (fun _ => ∀ H' S', Grow H S H' S' → D.nx σ H') ((wh X cl W).E σ H)) : tQ (wh X cl W) qk D σ H' :=
  ⟨S', ρ, g.in_, hr.sub g.s, post_mono h (fun _ z H2 S2 g2 => z H2 S2 (g.trans g2)) fun _ z => z.up g.h⟩
theorem sq_expr (asn : PS X st (tDrop (tD (wh X cl W) f))) (hk : SndQ X cl W rest qk) : SndQ X cl W (st :: rest) fun ρ => (f ρ).bind fun _ => qk ρ := by
  refine pss_imp (pss_cons asn hk) fun D σ H ⟨S, ρ, hS, hr, h⟩ => ?_
  rw [post_bind] at h
  exact ⟨S, ρ, hS, hr, post_mono h (fun d p v H' S' g q => q_next hr g p) fun _ z => z⟩
theorem sq_ite (asn : PS X st (tIfS (tDT (wh X cl W) fun ρ => (fc ρ).bind truth) (tQ (wh X cl W) qa) (tQ (wh X cl W) qb))) (hk : SndQ X cl W rest qk) :
    SndQ X cl W (st :: rest) fun ρ => ((fc ρ).bind truth).bind fun t => (if t then qa ρ else qb ρ).bind fun _ => qk ρ := by
  refine pss_imp (pss_cons asn hk) fun D σ H ⟨S, ρ, hS, hr, h⟩ => ?_
  rw [post_bind] at h
  refine ⟨S, ρ, hS, hr, post_mono h (fun t p H' S' g => ?_) fun _ z => z⟩
  have key : ∀ q : Env → R Unit, post ((q ρ).bind fun _ => qk ρ) (fun _ => ∀ H' S', Grow H S H' S' → D.nx σ H') ((wh X cl W).E σ H) → tQ (wh X cl W) q { D with nx := tQ (wh X cl W) qk D } σ H' := fun q p => by
    rw [post_bind] at p
    exact ⟨S', ρ, g.in_, hr.sub g.s, post_mono p (fun _ z H2 S2 g2 => q_next hr (g.trans g2) z) fun _ z => z.up g.h⟩
  cases t with
  | true => exact key qa p
  | false => exact key qb p

end
/-! ### try -/
inductive HsOk (X : Cx) (cl : Nat → Value) (mt : Nat → Nat → Option Bool) (fx : Nat → Env → R (Option PyData)) : (Nat → Env → R (Option PyData)) → List ExceptHandler → List (Value × (Addr → Value → Option Addr → TS)) → Prop
  | nil : HsOk X cl mt fx fx [] []
  | ret {e : Expr} {x : Str} {np p pos' : Pos} {k : Nat} {f : Env → R PyData} {g : Nat → Env → R (Option PyData)} {hds : List ExceptHandler} {l : List (Value × (Addr → Value → Option Addr → TS))} (hc : Names X x (cl k))
      (he : ∀ (a : Addr) (pn : List (Addr × Obj)), PE (X.suite a pn) e (tD ⟨X.K, cl, noW⟩ f)) (r : HsOk X cl mt fx g hds l) :
      HsOk X cl mt fx (fun c ρ => match mt c k with
        | some true => (f ρ).noEx.bind fun d => .ok (some d)
        | some false => g c ρ
        | none => .bad) (.ExceptHandler (some (.Name x np)) none [.Return (some e) p] pos' :: hds) ((cl k, fun _ _ _ => tRet (tD ⟨X.K, cl, noW⟩ f)) :: l)
  | pas {x : Str} {np p pos' : Pos} {k : Nat} {g : Nat → Env → R (Option PyData)} {hds : List ExceptHandler} {l : List (Value × (Addr → Value → Option Addr → TS))} (hc : Names X x (cl k)) (r : HsOk X cl mt fx g hds l) :
      HsOk X cl mt fx (fun c ρ => match mt c k with
        | some true => .ok none
        | some false => g c ρ
        | none => .bad) (.ExceptHandler (some (.Name x np)) none [.Pass p] pos' :: hds) ((cl k, fun _ _ _ => tNext) :: l)
section
variable {X : Cx} {cl : Nat → Value} {W : WX} {st : Stmt} {rest body other : List Stmt} {gk : Env → R Fl} {pos : Pos} {mt : Nat → Nat → Option Bool} {fh : Nat → Env → R (Option PyData)} {hds : List ExceptHandler} {l : List (Value × (Addr → Value → Option Addr → TS))}
theorem HsOk.toL (h : HsOk X cl mt (fun c _ => .ex c) fh hds l) : HdsOk X hds l := by
  induction h with
  | nil => exact .nil
  | ret hc he r ih => exact .cons hc (fun a oe cls d pn _ _ => pss_one (ps_ret (he a _))) ih
  | pas hc r ih => exact .cons hc (fun a oe cls d pn _ _ => pss_one ps_pass) ih
theorem HsOk.many {D : Ends} {n : Nat} {σ : L2.St} {H H1 S : Hp} {F : Fp} {ρ : Env} {c : Nat} (hl : σ.length = n) (hm : ∀ c c' b, mt c c' = some b → PySem.W.exmOne X.K (cl c) (cl c') = some b) (env : EnvR X.K H S σ ρ F) (s : Sub H H1) (h : HsOk X cl mt (fun c _ => .ex c) fh hds l)
    (hp : post ((fh c ρ).bind (tryO gk ρ)) (stP (wh X cl W) D n H S F) (stE (wh X cl W) H F)) : wMany X.K W { D with nx := tSt (wh X cl W) gk D } l (cl c) none σ H1 := by
  have g1 : Grow H S H1 S := ⟨s, Sub.refl _, env.sub.trans s, fun b e n => absurd e n⟩
  have env1 := env.grow g1
  generalize efx : (fun (c : Nat) (_ : Env) => (R.ex c : R (Option PyData))) = fx at h
  induction h with
  | nil =>
    subst efx
    exact hp σ H1 fun b o e _ => s b o e
  | @ret e x np p pos' k f g hds l hc he r ih =>
    dsimp only at hp
    cases q : mt c k with
    | none => rw [q] at hp; exact hp.elim
    | some b =>
      rw [q] at hp
      refine ⟨b, hm _ _ _ q, fun z a ha => ?_, fun z => ?_⟩
      · subst z
        refine ⟨_, ρ, env1.seen_le, env1.all, ?_⟩
        cases z : f ρ with
        | ok d =>
          rw [z] at hp
          intro v H2 S2 g2 r2
          exact hp v H2 S2 g2.in_ ((chg_grow g1).trans (fun b hb => .inr hb) (env1.chgZ g2)) r2
        | ex c => rw [z] at hp; exact hp.elim
        | bad => rw [z] at hp; exact hp.elim
      · subst z
        exact ih hp
  | @pas x np p pos' k g hds l hc r ih =>
    dsimp only at hp
    cases q : mt c k with
    | none => rw [q] at hp; exact hp.elim
    | some b =>
      rw [q] at hp
      refine ⟨b, hm _ _ _ q, fun z a ha => ?_, fun z => ?_⟩
      · subst z
        exact go_onN env1 (chg_grow g1) (fun b hb => .inr hb) hl hp
      · subst z
        exact ih hp
theorem ss_try {h₀ : ExceptHandler} {fq : Env → R Unit} (hs : X.stack = X.env :: X.outer) (hf : X.env.frame = some X.env.locals) (tk : Takes X W) (hm : ∀ c c' b, mt c c' = some b → PySem.W.exmOne X.K (cl c) (cl c') = some b)
    (hb : ∀ (W' : WX) (pn : List (Addr × Obj)) (xe : Value → Shared → Prop), Takes (X.tr pn xe) W' → PassesOwn (model X.prog X.w) X.A X.env xe → SndQ (X.tr pn xe) cl W' body fq)
    (hh : HsOk X cl mt (fun c _ => .ex c) fh (h₀ :: hds) l) (hk : SndS X cl W rest gk) : SndS X cl W (.Try body (h₀ :: hds) [] [] pos :: rest) fun ρ => tryD (fq ρ) (fun c => fh c ρ) gk ρ := by
  refine pss_impL (pss_cons (ps_try_many (tb := fun W' => tQ ⟨X.K, cl, W'⟩ fq) hs hf tk hb hh.toL) hk) fun D σ H hl h => ?_
  obtain ⟨S, ρ, F, env, h⟩ := tSt_def.mp h
  refine ⟨_, ρ, env.seen_le, env.all, ?_⟩
  unfold tryD at h
  cases q : fq ρ with
  | ok u =>
    rw [q] at h
    exact fun H' S' g => go_on (env.after g) (env.chg g) (fun b hb => .inr hb) rfl h
  | ex c =>
    rw [q] at h
    exact fun H1 s => hh.many rfl hm env s h
  | bad => rw [q] at h; exact h.elim
end
end DL
namespace DL
open PySem PySem.Spec PyProof.Rows L2
open Classical

/-! ### which stores go the common way -/
def notComp : Expr → Bool
  | .ListComp .. => false
  | .SetComp .. => false
  | .DictComp .. => false
  | _ => true
theorem sw_no {e : Expr} {t : Option Expr} {l : Nat} {env : PySem.Env} (h : notComp e = true) : swapsWith e t l env = pure false := by
  cases e <;> first | rfl | (simp [notComp] at h; done)
theorem sole_no {e tg : Expr} {l : Nat} {env : PySem.Env} (h : notComp e = true) : swapsWithSole [tg] e l env = pure false := sw_no h
theorem swst_name {e : Expr} {x : Str} {p : Pos} {env : PySem.Env} : swappedStores [.Name x p] e env = pure none := by
  cases e <;> rfl
theorem swst_sub {e a b : Expr} {p : Pos} {env : PySem.Env} : swappedStores [.Subscript a b p] e env = pure none := by
  cases e <;> rfl
def notTup : Expr → Bool
  | .Tuple .. => false
  | _ => true
theorem swst_tup {e : Expr} {ts : List Expr} {k : Nat} {p : Pos} {env : PySem.Env} (h : notTup e = true) : swappedStores [.Tuple ts k p] e env = pure none := by
  cases e <;> first | rfl | (simp [notTup] at h; done)
theorem star_no (e : Expr) : (match e with
  | .Starred .. => true
  | _ => false) = !notStar e := by
  cases e <;> rfl
theorem swst2 {x y : Str} {px py pt : Pos} {kt k2 : Nat} {pt2 : Pos} {a b : Expr} {env : PySem.Env} (hk : env.scope.kind = .function) (hx : env.scope.names.lookup x = some .local) (hy : env.scope.names.lookup y = some .local) (hl : (py.line == px.line) = true) (hn : x ≠ y)
    (ha : notStar a = true) (hb : notStar b = true) (h1 : (foldedForSure 8 a && foldedForSure 8 b) = false) (h2 : (constantsAlone 8 a && constantsAlone 8 b) = false) :
    swappedStores [.Tuple [.Name x px, .Name y py] kt pt] (.Tuple [a, b] k2 pt2) env = pure (some [x, y]) := by
  have kx : env.kindOf x = some .local := hx
  have ky : env.kindOf y = some .local := hy
  have hb' : env.blockKind = .function := by unfold Env.blockKind; rw [hk]; rfl
  have sa := star_no a
  rw [ha] at sa
  have sb := star_no b
  rw [hb] at sb
  have e1 : [a, b].all (foldedForSure 8) = false := by simp only [List.all_cons, List.all_nil, Bool.and_true]; exact h1
  have e2 : [a, b].all (constantsAlone 8) = false := by simp only [List.all_cons, List.all_nil, Bool.and_true]; exact h2
  have e3 : ([x, y].eraseDups.length != [x, y].length) = false := by
    have : (y == x) = false := by simpa using fun z => hn z.symm
    simp [List.eraseDups_cons, this]
  unfold swappedStores
  simp only [hb', List.length_cons, List.length_nil, List.any_cons, List.any_nil, sa, sb, List.head?_cons, Option.map_some, Option.getD_some, Expr.pos, List.filterMap_cons, List.filterMap_nil, kx, ky, hl, beq_self_eq_true, Bool.and_self, if_true, e1, e2]
  simp only [List.length_cons, List.length_nil] at e3
  simp only [Bool.not_true, Bool.or_false, Bool.false_eq_true, if_false, e3]
  simp
  rintro (h | h)
  · exact absurd (h.symm.trans sa) (by decide)
  · exact absurd (h.symm.trans sb) (by decide)
theorem swst3 {x y z : Str} {px py pz pt : Pos} {kt k2 : Nat} {pt2 : Pos} {a b c : Expr} {env : PySem.Env} (hk : env.scope.kind = .function) (hx : env.scope.names.lookup x = some .local) (hy : env.scope.names.lookup y = some .local) (hz : env.scope.names.lookup z = some .local)
    (hl : (py.line == px.line) = true) (hl2 : (pz.line == px.line) = true) (hn : x ≠ y) (hn2 : x ≠ z) (hn3 : y ≠ z)
    (ha : notStar a = true) (hb : notStar b = true) (hc : notStar c = true) (h1 : (foldedForSure 8 a && (foldedForSure 8 b && foldedForSure 8 c)) = false) (h2 : (constantsAlone 8 a && (constantsAlone 8 b && constantsAlone 8 c)) = false) :
    swappedStores [.Tuple [.Name x px, .Name y py, .Name z pz] kt pt] (.Tuple [a, b, c] k2 pt2) env = pure (some [x, y, z]) := by
  have kx : env.kindOf x = some .local := hx
  have ky : env.kindOf y = some .local := hy
  have kz : env.kindOf z = some .local := hz
  have hb' : env.blockKind = .function := by unfold Env.blockKind; rw [hk]; rfl
  have sa := star_no a
  rw [ha] at sa
  have sb := star_no b
  rw [hb] at sb
  have sc := star_no c
  rw [hc] at sc
  have e1 : [a, b, c].all (foldedForSure 8) = false := by simp only [List.all_cons, List.all_nil, Bool.and_true]; exact h1
  have e2 : [a, b, c].all (constantsAlone 8) = false := by simp only [List.all_cons, List.all_nil, Bool.and_true]; exact h2
  have e3 : ([x, y, z].eraseDups.length != [x, y, z].length) = false := by
    have t1 : (y == x) = false := by simpa using fun z => hn z.symm
    have t2 : (z == x) = false := by simpa using fun z => hn2 z.symm
    have t3 : (z == y) = false := by simpa using fun z => hn3 z.symm
    simp [List.eraseDups_cons, t1, t2, t3]
  unfold swappedStores
  simp only [hb', List.length_cons, List.length_nil, List.any_cons, List.any_nil, sa, sb, sc, List.head?_cons, Option.map_some, Option.getD_some, Expr.pos, List.filterMap_cons, List.filterMap_nil, kx, ky, kz, hl, hl2, beq_self_eq_true, Bool.and_self, if_true, e1, e2]
  simp only [List.length_cons, List.length_nil] at e3
  simp only [Bool.not_true, Bool.or_false, Bool.false_eq_true, if_false, e3]
  simp
  rintro (h | h | h)
  · exact absurd (h.symm.trans sa) (by decide)
  · exact absurd (h.symm.trans sb) (by decide)
  · exact absurd (h.symm.trans sc) (by decide)
/-- a tuple of constants -/
theorem swst_const {ts vs : List Expr} {k k2 : Nat} {p p2 : Pos} {env : PySem.Env} (h : vs.all (foldedForSure 8) = true) (h0 : env.scope.kind = .function) : swappedStores [.Tuple ts k p] (.Tuple vs k2 p2) env = pure none := by
  unfold swappedStores
  simp only [h, if_true]
  repeat' split
  all_goals first | rfl | skip
theorem swst_len {ts vs : List Expr} {k k2 : Nat} {p p2 : Pos} {env : PySem.Env} (h : (ts.length == 2 || ts.length == 3) = false) : swappedStores [.Tuple ts k p] (.Tuple vs k2 p2) env = pure none := by
  unfold swappedStores
  dsimp only
  rw [h]
  rfl
theorem filterMap_short {α β : Type} {f : α → Option β} : ∀ {l : List α}, (∃ x ∈ l, f x = none) → (l.filterMap f).length < l.length
  | [], h => by
    obtain ⟨x, hx, _⟩ := h
    cases hx
  | a :: l, h => by
    have le : ∀ l : List α, (l.filterMap f).length ≤ l.length := fun l => List.length_filterMap_le f l
    rw [List.filterMap_cons]
    cases e : f a with
    | none =>
      have := le l
      rw [List.length_cons]
      show (l.filterMap f).length < _
      omega
    | some b =>
      obtain ⟨x, hx, e2⟩ := h
      rcases List.mem_cons.mp hx with z | z
      · subst z; rw [e] at e2; cases e2
      · have := filterMap_short (l := l) ⟨x, z, e2⟩
        show (l.filterMap f).length + 1 < l.length + 1
        omega
/-- a name that isn't the frame's own: the stores go in order -/
theorem swst_cell {ts vs : List Expr} {k k2 : Nat} {p p2 : Pos} {env : PySem.Env} (h : ∃ t ∈ ts, ∀ x q, t = .Name x q → env.scope.names.lookup x ≠ some .local) : swappedStores [.Tuple ts k p] (.Tuple vs k2 p2) env = pure none := by
  unfold swappedStores
  dsimp only
  split
  · rfl
  · split
    · rfl
    · rw [if_pos]
      rw [Bool.or_eq_true]
      refine .inl ?_
      have z := fun (l : Nat) => filterMap_short (f := fun t => match t with
        | .Name id pos => if env.kindOf id == some .local && pos.line == l then some id else none
        | _ => none) (l := ts) (by
          obtain ⟨t, ht, hn⟩ := h
          refine ⟨t, ht, ?_⟩
          split
          · rename_i id pos
            have := hn id pos rfl
            have e : (env.kindOf id == some NameKind.local) = false := by
              cases q : env.kindOf id == some NameKind.local with
              | false => rfl
              | true => exact absurd (show env.kindOf id = some .local by simpa using q) this
            rw [e, Bool.false_and, if_neg Bool.false_ne_true]
          · rfl)
      have z1 := z ((ts.head?.map (·.pos.line)).getD 0)
      simp only [bne_iff_ne, ne_eq]
      exact Nat.ne_of_lt z1
end DL
namespace DL
open PySem PySem.Spec PyProof.Rows L2
open Classical

def localB (sc : Scope) (x : Str) : Bool := decide (sc.names.lookup x = some .local)
def aliasB (scope : Scope) (y : Str) : Bool := scope.names.any fun (n, k) => n == y && (k == .local || k == .cell)
def exN (T : Tab) (sc : Scope) (c : Nat) (y : Str) : Bool := decide (T.exs[c]? = some y) && glB sc y && okN y
def simpleH : IE → Bool
  | .bl _ => true
  | .cmp _ (.var _) (.int _) => true
  | _ => false
def chkQ (T : Tab) (N : List Str) (b : IQ) (sc : Scope) (sts : List Stmt) : Bool := match b with
  | .done => sts.isEmpty
  | .expr e k => (match sts with
    | .Expr x _ :: r => notComp x && chk T N e sc (.e x) && chkQ T N k sc r
    | _ => false)
  | .ite c a b k => (match sts with
    | .If x p q _ :: r => chk T N c sc (.e x) && chkQ T N a sc p && chkQ T N b sc q && chkQ T N k sc r
    | _ => false)
termination_by structural b
def chkH (T : Tab) (N : List Str) (hs : Hs) (sc : Scope) (hds : List ExceptHandler) : Bool := match hs with
  | .nil => hds.isEmpty
  | .ret c e r => (match hds with
    | .ExceptHandler (some (.Name y _)) none [.Return (some x) _] _ :: hds => exN T sc c y && simpleH e && chk T N e sc (.e x) && chkH T N r sc hds
    | _ => false)
  | .pas c r => (match hds with
    | .ExceptHandler (some (.Name y _)) none [.Pass _] _ :: hds => exN T sc c y && chkH T N r sc hds
    | _ => false)
termination_by structural hs
def freshM : Md → Bool
  | .f => true
  | .fz _ => true
  | _ => false
def setOk (sc : Scope) (y : Str) (py : Pos) : Expr → Bool
  | .ListComp _ _ scope p => localB sc y && (py.line == p.line) && !aliasB scope y
  | x => notComp x
/-- names side by side -/
def parOk (N : List Str) (sc : Scope) (is : List Nat) (ts vs : List Expr) : Bool := match is, ts, vs with
  | [i, j], [.Name x px, .Name y py], [a, b] => decide (N[i]? = some x) && decide (N[j]? = some y) && decide (i ≠ j) && localB sc x && localB sc y && (py.line == px.line) && decide (x ≠ y) && notStar a && notStar b &&
      !(foldedForSure 8 a && foldedForSure 8 b) && !(constantsAlone 8 a && constantsAlone 8 b)
  | [i, j, l], [.Name x px, .Name y py, .Name z pz], [a, b, c] => decide (N[i]? = some x) && decide (N[j]? = some y) && decide (N[l]? = some z) && decide (i ≠ j) && decide (i ≠ l) && decide (j ≠ l) && localB sc x && localB sc y && localB sc z &&
      (py.line == px.line) && (pz.line == px.line) && decide (x ≠ y) && decide (x ≠ z) && decide (y ≠ z) && notStar a && notStar b && notStar c &&
      !(foldedForSure 8 a && (foldedForSure 8 b && foldedForSure 8 c)) && !(constantsAlone 8 a && (constantsAlone 8 b && constantsAlone 8 c))
  | _, _, _ => false
/-- names that aren't all the frame's own -/
def someCell (sc : Scope) (ts : List Expr) : Bool := ts.any fun t => match t with
  | .Name x _ => !localB sc x
  | _ => true
/-- what is unpacked -/
def unpOk (sc : Scope) : Expr → Expr → Bool
  | .Tuple ts _ _, .Tuple vs _ _ => vs.all (foldedForSure 8) || (someCell sc ts || !(ts.length == 2 || ts.length == 3))
  | .Tuple _ _ _, e => notComp e
  | _, _ => false
def augB : Bop → Bool
  | .add => true
  | .sub => true
  | _ => false
def chkS (T : Tab) (N : List Str) (ir : IS) (sc : Scope) (sts : List Stmt) : Bool := match ir with
  | .done => sts.isEmpty
  | .set m i e k => (match sts with
    | .Assign [.Name y py] x _ :: r => decide (N[i]? = some y) && locB sc y && setOk sc y py x && (!freshM m || freshE e) && chk T N e sc (.e x) && chkS T N k sc r
    | _ => false)
  | .par _ is es k => (match sts with
    | .Assign [.Tuple ts _ _] (.Tuple vs _ _) _ :: r => parOk N sc is ts vs && chk T N es sc (.es vs) && chkS T N k sc r
    | _ => false)
  | .par0 i j k => (match sts with
    | .Assign [.Tuple ts _ _] (.Tuple [.List [] p, .List [] q] _ _) _ :: r => decide (i ≠ j) && parOk N sc [i, j] ts [.List [] p, .List [] q] && chkS T N k sc r
    | _ => false)
  | .unp _ t e k => (match sts with
    | .Assign [tg] x _ :: r => unpOk sc tg x && chkT N sc t tg && chk T N e sc (.e x) && chkS T N k sc r
    | _ => false)
  | .app i e k => (match sts with
    | .Expr (.Call (.Attribute (.Name y _) a apos) [x] [] cpos) _ :: r => decide (N[i]? = some y) && visB sc y && okN y && decide (a = "append") && (apos.endLine == cpos.line) && notStar x && chk T N e sc (.e x) && chkS T N k sc r
    | _ => false)
  | .sto i ix e k => (match sts with
    | .Assign [.Subscript (.Name y _) z _] x _ :: r => decide (N[i]? = some y) && visB sc y && okN y && plainIx z && notComp x && chk T N ix sc (.e z) && chk T N e sc (.e x) && chkS T N k sc r
    | _ => false)
  | .aug o i e k => (match sts with
    | .AugAssign (.Name y _) op x _ :: r => decide (N[i]? = some y) && locB sc y && decide (op = o.op) && augB o && chk T N e sc (.e x) && chkS T N k sc r
    | _ => false)
  | .expr e k => (match sts with
    | .Expr x _ :: r => notComp x && chk T N e sc (.e x) && chkS T N k sc r
    | _ => false)
  | .ret e => (match sts with
    | .Return (some x) _ :: _ => chk T N e sc (.e x)
    | _ => false)
  | .ite c a b k => (match sts with
    | .If x p q _ :: r => chk T N c sc (.e x) && chkS T N a sc p && chkS T N b sc q && chkS T N k sc r
    | _ => false)
  | .for_ t _ it body k => (match sts with
    | .For tg x p [] _ :: r => chkT N sc t tg && notSet x && chk T N it sc (.it tg x) && chkS T N body sc p && chkS T N k sc r
    | _ => false)
  | .while_ _ c body k => (match sts with
    | .While x p [] _ :: r => chk T N c sc (.e x) && chkS T N body sc p && chkS T N k sc r
    | _ => false)
  | .raise c => (match sts with
    | .Raise (some (.Call (.Name y _) [.Constant (.str _) _ _] [] _)) none _ :: _ => exN T sc c y
    | _ => false)
  | .try_ b hs k => (match sts with
    | .Try p (h :: hds) [] [] _ :: r => chkQ T N b sc p && chkH T N hs sc (h :: hds) && chkS T N k sc r
    | _ => false)
  | .pas k => (match sts with
    | .Pass _ :: r => chkS T N k sc r
    | _ => false)
  | .fgt _ k => chkS T N k sc sts
termination_by structural ir

/-- a place of statements -/
structure AtS (T : Tab) (N : List Str) (cl : Nat → Value) (run : Nat → List PyData → R PyData) (mt : Nat → Nat → Option Bool) (X : Cx) (sc : Scope) (W : WX) : Prop where
  at_ : At T N cl run X sc W
  kind : X.env.scope.kind = .function
  po : PassesOwn (model X.prog X.w) X.A X.env X.xe
  hs : X.stack = X.env :: X.outer
  hf : X.env.frame = some X.env.locals
  fn : ∀ x, X.fn x = true
  exs : ∀ (c : Nat) (y : Str), T.exs[c]? = some y → X.mg y = some (cl c) ∧ ∀ (m : Str) (j : Nat) (p p2 pos : Pos), Gl X y → (y == ("__debug__" : Str)) = false → PMk X (.Call (.Name y p) [.Constant (.str m) j p2] [] pos) (fun _ H Q => Q (cl c) none H)
  exm : ∀ c c' b, mt c c' = some b → PySem.W.exmOne X.K (cl c) (cl c') = some b
theorem At.tr {T : Tab} {N : List Str} {cl : Nat → Value} {run : Nat → List PyData → R PyData} {X : Cx} {sc : Scope} {W W' : WX} (h : At T N cl run X sc W) (pn : List (Addr × Obj)) (xe : Value → Shared → Prop) (tk : Takes (X.tr pn xe) W') : At T N cl run (X.tr pn xe) sc W' where
  calm := h.calm
  nd := h.nd
  N := h.N
  scope := h.scope
  hu := h.hu
  tk := tk
  fns := h.fns
  gls := h.gls
  bls := h.bls
section
variable {T : Tab} {N : List Str} {cl : Nat → Value} {call run : Nat → List PyData → R PyData} {mt : Nat → Nat → Option Bool} {X : Cx} {sc : Scope} {W : WX}
theorem locB_ok {x : Str} (h : locB sc x = true) (e : X.env.scope = sc) : Loc X.env.scope x := by
  unfold locB at h
  rw [e]
  unfold L2.Loc
  split at h <;> first | exact .inl (by assumption) | exact .inr (by assumption) | cases h
theorem exN_ok {c : Nat} {y : Str} (hA : AtS T N cl run mt X sc W) (h : exN T sc c y = true) : Names X y (cl c) := by
  unfold exN at h
  simp only [Bool.and_eq_true, decide_eq_true_eq] at h
  exact ⟨glB_ok h.1.2 hA.at_.scope, (okN_ok h.2).1, .inl (hA.exs c y h.1.1).1⟩
theorem soundH (hA : AtS T N cl run mt X sc W) (ir : IE) (hf : simpleH ir = true) (x : Expr) (h : chk T N ir sc (.e x) = true) (a : Addr) (pn : List (Addr × Obj)) : PE (X.suite a pn) x (tD ⟨X.K, cl, noW⟩ (ev call ir)) := by
  have hv : ∀ (i : Nat) (x : Expr), chk T N (.var i) sc (.e x) = true → Snd (X.suite a pn) cl noW x (ev call (.var i)) := fun i x h => by
    simp only [chk] at h
    split at h
    · rename_i heq
      cases heq
      simp only [Bool.and_eq_true, decide_eq_true_eq] at h
      exact snd_var (X := X.suite a pn) (by show X.N[i]? = _; rw [hA.at_.N]; exact h.1.1) (visB_ok (X := X) h.1.2 hA.at_.scope) (okN_ok h.2).1 (okN_ok h.2).2
    · cases h
  have hi : ∀ (i : Int) (x : Expr), chk T N (.int i) sc (.e x) = true → Snd (X.suite a pn) cl noW x (ev call (.int i)) := fun i x h => by
    simp only [chk] at h
    split at h
    · rename_i heq
      cases heq
      have e := of_decide_eq_true h
      subst e
      exact snd_int
    · cases h
  unfold simpleH at hf
  split at hf
  · simp only [chk] at h
    split at h
    · rename_i heq
      cases heq
      have e := eq_of_beq h
      subst e
      exact snd_bl.pe
    · cases h
  · simp only [chk] at h
    split at h
    · rename_i heq
      cases heq
      simp only [Bool.and_eq_true, decide_eq_true_eq, Bool.not_eq_true'] at h
      obtain ⟨⟨⟨e, hb⟩, h1⟩, h2⟩ := h
      subst e
      have q := snd_cmp (X := X.suite a pn) (cl := cl) (W := noW) (pos := ‹_›) hA.at_.hu (hv _ _ h1) (hi _ _ h2) hb
      exact pe_imp q.pe fun σ H Q z => by
        simpa only [ev] using z
    · cases h
  · cases hf
theorem soundHs (hA : AtS T N cl run mt X sc W) : ∀ (hs : Hs) (hds : List ExceptHandler), chkH T N hs sc hds = true → ∃ l, HsOk X cl mt (fun c _ => .ex c) (fun c ρ => exh call mt hs c ρ) hds l
  | .nil, hds, h => by
    simp only [chkH, List.isEmpty_iff] at h
    subst h
    refine ⟨[], ?_⟩
    simp only [exh]
    exact .nil
  | .ret c e r, hds, h => by
    simp only [chkH] at h
    split at h
    · simp only [Bool.and_eq_true] at h
      obtain ⟨⟨⟨h1, h2⟩, h3⟩, h4⟩ := h
      obtain ⟨l, hl⟩ := soundHs hA r _ h4
      exact ⟨_, .ret (exN_ok hA h1) (soundH hA e h2 _ h3) hl⟩
    · cases h
  | .pas c r, hds, h => by
    simp only [chkH] at h
    split at h
    · simp only [Bool.and_eq_true] at h
      obtain ⟨h1, h4⟩ := h
      obtain ⟨l, hl⟩ := soundHs hA r _ h4
      exact ⟨_, .pas (exN_ok hA h1) hl⟩
    · cases h
theorem soundQ (hC : CallOk T call run) (hA : At T N cl run X sc W) : ∀ (b : IQ) (sts : List Stmt), chkQ T N b sc sts = true → SndQ X cl W sts (exq call b)
  | .done, sts, h => by
    simp only [chkQ, List.isEmpty_iff] at h
    subst h
    exact sq_nil
  | .expr e k, sts, h => by
    simp only [chkQ] at h
    split at h
    · simp only [Bool.and_eq_true] at h
      obtain ⟨⟨h1, h2⟩, h3⟩ := h
      exact sq_expr (ps_expr ((sound hC e X sc W hA).e _ h2).pe (sw_no h1)) (soundQ hC hA k _ h3)
    · cases h
  | .ite c a b k, sts, h => by
    simp only [chkQ] at h
    split at h
    · simp only [Bool.and_eq_true] at h
      obtain ⟨⟨⟨h1, h2⟩, h3⟩, h4⟩ := h
      exact sq_ite (ps_if ((sound hC c X sc W hA).e _ h1).pt (soundQ hC hA a _ h2) (soundQ hC hA b _ h3)) (soundQ hC hA k _ h4)
    · cases h
end
end DL
namespace DL
open PySem PySem.Spec PyProof.Rows L2
open Classical

section
variable {T : Tab} {N : List Str} {cl : Nat → Value} {call run : Nat → List PyData → R PyData} {mt : Nat → Nat → Option Bool} {X : Cx} {sc : Scope} {W : WX}
theorem localB_ok {x : Str} (h : localB sc x = true) (e : X.env.scope = sc) : X.env.scope.names.lookup x = some .local := by
  rw [e]; exact of_decide_eq_true h
theorem ixlt {i : Nat} {y : Str} (h : X.N[i]? = some y) : i < X.N.length := (List.getElem?_eq_some_iff.mp h).1
/-- name = value: the store, with a new list told -/
theorem asg_set (hC : CallOk T call run) (hA : AtS T N cl run mt X sc W) {e : IE} {i : Nat} {y : Str} {py pos : Pos} {x : Expr} (hN : N[i]? = some y) (hl : locB sc y = true) (hs : setOk sc y py x = true) (hc : chk T N e sc (.e x) = true) :
    PS X (.Assign [.Name y py] x pos) (tAsg (tD (wh X cl W) (ev call e)) (gName i)) ∧ (freshE e = true → PS X (.Assign [.Name y py] x pos) (tAsg (tDF (wh X cl W) (ev call e)) (gName i))) := by
  have hN' : X.N[i]? = some y := by rw [hA.at_.N]; exact hN
  have lo := locB_ok hl hA.at_.scope
  have pg : PG X (.Name y py) (gName i) := pg_name hA.at_.nd hN' lo (.inl (hA.fn y))
  by_cases c : notComp x = true
  · exact ⟨ps_asg ((sound hC e X sc W hA.at_).e _ hc).pe pg (sole_no c) swst_name rfl, fun hf => ps_asg (soundF hC hA.at_ e hf _ hc) pg (sole_no c) swst_name rfl⟩
  · cases x <;> first | (exact absurd rfl c) | skip
    · rename_i elt gs scope p
      unfold setOk at hs
      simp only [Bool.and_eq_true, Bool.not_eq_true'] at hs
      obtain ⟨⟨h1, h2⟩, h3⟩ := hs
      obtain ⟨tg, iter, ifs, own, t, fi, fc, fe, e1, e2, e3⟩ := (sound hC e X sc W hA.at_).lc _ _ _ _ hc
      subst e1
      have q := set_lc (cl := cl) (W := W) (spos := pos) (py := py) (pos := p) hA.at_.calm hA.at_.nd e2 hN' (localB_ok h1 hA.at_.scope) hA.kind h2 h3
      rw [← e3] at q
      exact ⟨ps_imp q fun D σ H z => td_tdf (fun ρ d w => by rw [e3] at w; exact lcD_list w) z, fun _ => q⟩
    · exact absurd hs (by simp [setOk, notComp])
    · exact absurd hs (by simp [setOk, notComp])
theorem parOk_ok (hA : AtS T N cl run mt X sc W) {is : List Nat} {ts vs : List Expr} {kt k2 : Nat} {pt pt2 pos : Pos} {ta : TA} (h : parOk N sc is ts vs = true) (ha : PA X vs ta) :
    (∀ i ∈ is, i < X.N.length) ∧ (is.length = 2 ∨ is.length = 3) ∧ ∃ t : TS, PS X (.Assign [.Tuple ts kt pt] (.Tuple vs k2 pt2) pos) t ∧ ∀ D σ H, ta σ H (fun ws H1 => ws.length = is.length ∧ D.nx (setAll is ws σ) H1) → (∀ Q Q' : List V → Hp → Prop, (∀ ws H1, Q ws H1 → Q' ws H1) → ta σ H Q → ta σ H Q') → t D σ H := by
  unfold parOk at h
  split at h
  · simp only [Bool.and_eq_true, decide_eq_true_eq, Bool.not_eq_true'] at h
    obtain ⟨⟨⟨⟨⟨⟨⟨⟨⟨⟨h1, h2⟩, h3⟩, h4⟩, h5⟩, h6⟩, h7⟩, h8⟩, h9⟩, h10⟩, h11⟩ := h
    rw [← hA.at_.N] at h1 h2
    refine ⟨fun k hk => ?_, .inl rfl, _, ps_par hA.at_.calm hA.at_.nd h1 h2 h3 (localB_ok h4 hA.at_.scope) (localB_ok h5 hA.at_.scope) ha (swst2 hA.kind (localB_ok h4 hA.at_.scope) (localB_ok h5 hA.at_.scope) h6 h7 h8 h9 h10 h11) rfl, fun D σ H q m => ?_⟩
    · simp only [List.mem_cons, List.not_mem_nil, or_false] at hk
      rcases hk with rfl | rfl
      · exact ixlt h1
      · exact ixlt h2
    · refine m _ _ (fun ws H1 z => ?_) q
      match ws, z with
      | [v, w], z => exact ⟨v, w, rfl, z.2⟩
  · simp only [Bool.and_eq_true, decide_eq_true_eq, Bool.not_eq_true'] at h
    obtain ⟨⟨⟨⟨⟨⟨⟨⟨⟨⟨⟨⟨⟨⟨⟨⟨⟨⟨h1, h2⟩, h3⟩, h4⟩, h5⟩, h6⟩, h7⟩, h8⟩, h9⟩, h10⟩, h11⟩, h12⟩, h13⟩, h14⟩, h15⟩, h16⟩, h17⟩, h18⟩, h19⟩ := h
    rw [← hA.at_.N] at h1 h2 h3
    refine ⟨fun k hk => ?_, .inr rfl, _, ps_par3 hA.at_.calm hA.at_.nd h1 h2 h3 h4 h5 h6 (localB_ok h7 hA.at_.scope) (localB_ok h8 hA.at_.scope) (localB_ok h9 hA.at_.scope) ha (swst3 hA.kind (localB_ok h7 hA.at_.scope) (localB_ok h8 hA.at_.scope) (localB_ok h9 hA.at_.scope) h10 h11 h12 h13 h14 h15 h16 h17 h18 h19) rfl, fun D σ H q m => ?_⟩
    · simp only [List.mem_cons, List.not_mem_nil, or_false] at hk
      rcases hk with rfl | rfl | rfl
      · exact ixlt h1
      · exact ixlt h2
      · exact ixlt h3
    · refine m _ _ (fun ws H1 z => ?_) q
      match ws, z with
      | [u, v, w], z => exact ⟨u, v, w, rfl, z.2⟩
  · cases h
theorem tda_mono {w : Wh} {f : Env → R PyData} {σ : St} {H : Hp} (Q Q' : List V → Hp → Prop) (m : ∀ ws H1, Q ws H1 → Q' ws H1) (h : tDA w f σ H Q) : tDA w f σ H Q' := by
  obtain ⟨S, ρ, hS, hr, h⟩ := h
  refine ⟨S, ρ, hS, hr, post_mono h (fun d p => ?_) fun _ z => z⟩
  cases d <;> try exact p.elim
  exact fun vs H' S' g q => m _ _ (p vs H' S' g q)
theorem ss_par0 {st : Stmt} {rest : List Stmt} {i j : Nat} {t : TS} {te : TE} {gk : Env → R Fl} (hi : i < X.N.length) (hj : j < X.N.length) (hij : i ≠ j) (hte : te = tDF (wh X cl W) fun _ => .ok (.list [])) (asn : PS X st t)
    (ha : ∀ D σ H, te σ H (fun v H1 => te σ H1 fun w H2 => D.nx (setAll [i, j] [v, w] σ) H2) → t D σ H) (hk : SndS X cl W rest gk) : SndS X cl W (st :: rest) fun ρ => par0D i j gk ρ := by
  refine pss_impL (pss_cons asn hk) fun D σ H hl h => ?_
  obtain ⟨S, ρ, F, env, h⟩ := tSt_def.mp h
  obtain ⟨hp, h⟩ := post_if2 h
  simp only [Bool.and_eq_true, decide_eq_true_eq] at hp
  refine ha _ σ H ?_
  subst hte
  have nil : ∀ S, ShR X.K S σ [] := fun S k s d e1 e2 => by simp at e1
  refine ⟨S, [], env.sub, nil _, fun p vs H1 S1 g e n s r => ⟨S1, [], g.in_, nil _, fun p2 vs2 H2 S2 g2 e2 n2 s2 r2 => ?_⟩⟩
  have env2 := (env.grow g).grow g2
  have e3 : H2 p = some (.lst vs) := g2.h p _ e
  have s3 : S2 p = none := by
    cases z : S2 p with
    | none => rfl
    | some o =>
      have := g2.new p s (by rw [z]; simp)
      rw [e] at this; cases this
  have nF : ∀ q, H q = none → ∀ k, q ∉ F k := fun q hq k hk => by
    obtain ⟨⟨vs, z⟩, _⟩ := env.lst ⟨k, hk⟩
    rw [hq] at z; cases z
  have n2' : H p2 = none := by
    cases z : H p2 with
    | none => rfl
    | some o => rw [g.h p2 o z] at n2; cases n2
  have ne : p2 ≠ p := fun z => by subst z; rw [e] at n2; cases n2
  have r' : RpA X.K S2 [] vs := by
    simp only [RpA] at r ⊢; exact r
  have env3 := env2.setO1 (i := i) (by rw [hl]; exact hi) hp.1 e3 (fun k _ => nF p n k) s3 r'
  have env4 := env3.setO1 (i := j) (by rw [List.length_set, hl]; exact hj) (by rw [List.length_set]; exact hp.2) e2 (fun k hk hm => by
    unfold put at hm
    split at hm
    · exact ne (by simpa using hm)
    · exact nF p2 n2' k hm) s2 r2
  refine go_on env4 ((chg_grow g).trans (fun b hb => .inr hb) (chg_grow g2)) ?_ (by simp [setAll]) h
  exact FpUp.putN (FpUp.putN (fun b hb => .inr hb) n) n2'
end
end DL
namespace DL
open PySem PySem.Spec PyProof.Rows L2
open Classical

section
variable {T : Tab} {N : List Str} {cl : Nat → Value} {call run : Nat → List PyData → R PyData} {mt : Nat → Nat → Option Bool} {X : Cx} {sc : Scope} {W : WX}
theorem asg_sub {y : Str} {z : Expr} {p1 p2 : Pos} {env : PySem.Env} (h : plainIx z = true) : ∀ v, assign (.Subscript (.Name y p1) z p2) env v = (do
      let ov ← holding [v] (eval (.Name y p1) env)
      let iv ← holding [v, ov] (eval z env)
      standAt p2
      holding [v, ov, iv] (setItem ov iv v)
      release [v, ov, iv] []) := by
  intro v
  cases z <;> first | rfl | (simp [plainIx] at h; done)
theorem few_one {x : Expr} {cpos : Pos} {env : PySem.Env} (h : notStar x = true) : ((backTo cpos (starEach [x] env)).all (fun x => !x.1) && (backToKw cpos (keywordEach [] env)).all (fun x => x.1.isSome)
      && decide ([x].length + ([] : List Keyword).length + (if ([] : List Keyword).isEmpty then 0 else 1) < 30)) = true := by
  rw [star_cons h]; rfl
theorem ixAll_lt {N : List Str} : ∀ {ys : List Str} {is : List Nat}, ixAll N ys is = true → ∀ i ∈ is, i < N.length
  | [], [], _, i, hi => by cases hi
  | [], _ :: _, h, _, _ => by cases h
  | _ :: _, [], h, _, _ => by cases h
  | y :: ys, j :: is, h, i, hi => by
    simp only [ixAll, Bool.and_eq_true, decide_eq_true_eq] at h
    rcases List.mem_cons.mp hi with e | e
    · subst e; exact (List.getElem?_eq_some_iff.mp h.1).1
    · exact ixAll_lt h.2 i e
theorem chkT_lt {t : Tg} {x : Expr} (h : chkT N sc t x = true) : ∀ i ∈ t.all, i < N.length := by
  unfold chkT at h
  split at h
  · simp only [Bool.and_eq_true, decide_eq_true_eq] at h
    intro i hi
    simp only [Tg.all, List.mem_singleton] at hi
    subst hi
    exact (List.getElem?_eq_some_iff.mp h.1).1
  · split at h
    · simp only [Bool.and_eq_true] at h
      exact ixAll_lt h.1.1
    · cases h
  · cases h
theorem pv (hA : AtS T N cl run mt X sc W) {i : Nat} {y : Str} {p : Pos} (h1 : N[i]? = some y) (h2 : visB sc y = true) (h3 : okN y = true) : PE X (.Name y p) (tVar i) :=
  pe_var (by rw [hA.at_.N]; exact h1) (visB_ok h2 hA.at_.scope) (okN_ok h3).1 (okN_ok h3).2
theorem soundS (hC : CallOk T call run) (hA : AtS T N cl run mt X sc W) : ∀ (ir : IS) (sts : List Stmt), chkS T N ir sc sts = true → SndS X cl W sts (exec call mt ir)
  | .done, sts, h => by
    simp only [chkS, List.isEmpty_iff] at h
    subst h
    exact ss_nil
  | .set m i e k, sts, h => by
    simp only [chkS] at h
    split at h
    · simp only [Bool.and_eq_true, decide_eq_true_eq] at h
      obtain ⟨⟨⟨⟨⟨h1, h2⟩, h3⟩, h4⟩, h5⟩, h6⟩ := h
      obtain ⟨q1, q2⟩ := asg_set hC hA (pos := ‹_›) h1 h2 h3 h5
      have hi : i < X.N.length := ixlt (by rw [hA.at_.N]; exact h1)
      have hk := soundS hC hA k _ h6
      cases m with
      | p => exact ss_set_p hi q1 hk
      | f => exact ss_set_f hi (q2 (by simpa [freshM] using h4)) hk
      | z fz => exact ss_set_z fz hi q1 hk
      | fz fz => exact ss_set_fz fz hi (q2 (by simpa [freshM] using h4)) hk
    · cases h
  | .par m is es k, sts, h => by
    simp only [chkS] at h
    split at h
    · simp only [Bool.and_eq_true] at h
      obtain ⟨⟨h1, h2⟩, h3⟩ := h
      have ha := ((sound hC es X sc W hA.at_).es _ h2).1
      rename_i ts kt pt vs k2 pt2 pos r
      obtain ⟨hl, _, t, asn, ht⟩ := parOk_ok hA (kt := kt) (k2 := k2) (pt := pt) (pt2 := pt2) (pos := pos) h1 ha
      have hk := soundS hC hA k _ h3
      cases m with
      | none => exact ss_par hl asn (fun D σ H q => ht D σ H q (tda_mono)) hk
      | some fz => exact ss_parz fz hl asn (fun D σ H q => ht D σ H q (tda_mono)) hk
    · cases h
  | .par0 i j k, sts, h => by
    simp only [chkS] at h
    split at h
    · simp only [Bool.and_eq_true, decide_eq_true_eq] at h
      obtain ⟨⟨hij, h1⟩, h3⟩ := h
      have hk := soundS hC hA k _ h3
      have fl : ∀ p, PE X (.List [] p) (tDF (wh X cl W) fun _ => .ok (.list [])) := fun p => by
        have q := fr_lst (X := X) (cl := cl) (W := W) (es := []) (f := fun _ => .ok (.tuple [])) (pos := p) (pa_imp pa_nil fun σ H Q ⟨S, ρ, hS, hr, z⟩ => z [] H S (Grow.refl hS) RpA.nil) fun ρ d z => ⟨[], by cases z; rfl, by decide⟩
        exact q
      rename_i ts kt pt p1 p2 k2 pt2 pos r
      have ha : PA X [.List [] p1, .List [] p2] (tCons (tDF (wh X cl W) fun _ => .ok (.list [])) (tCons (tDF (wh X cl W) fun _ => .ok (.list [])) tNil)) := pa_cons (fl p1) (pa_cons (fl p2) pa_nil rfl) rfl
      obtain ⟨hl, _, t, asn, ht⟩ := parOk_ok hA (kt := kt) (k2 := k2) (pt := pt) (pt2 := pt2) (pos := pos) h1 ha
      have tm : ∀ {w : Wh} {f : Env → R PyData} {σ : L2.St} {H : Hp} {Q Q' : VK}, (∀ v H1, Q v H1 → Q' v H1) → tDF w f σ H Q → tDF w f σ H Q' := fun {w f σ H Q Q'} m ⟨S, ρ, hS, hr, z⟩ => ⟨S, ρ, hS, hr, post_mono z (fun d p => by
        cases d <;> try exact p.elim
        exact fun q vs H' S' g e n s r => m _ _ (p q vs H' S' g e n s r)) fun _ z => z⟩
      refine ss_par0 (hl i (by simp)) (hl j (by simp)) hij rfl asn (fun D σ H q => ht D σ H (tm (fun v H1 q2 => tm (fun w H2 q3 => ⟨rfl, q3⟩) q2) q) fun Q Q' m q => tm (fun v H1 q2 => tm (fun w H2 q3 => m _ _ q3) q2) q) hk
    · cases h
  | .unp m t e k, sts, h => by
    simp only [chkS] at h
    split at h
    · simp only [Bool.and_eq_true] at h
      obtain ⟨⟨⟨h1, h2⟩, h3⟩, h4⟩ := h
      rename_i tg x pos r
      have hk := soundS hC hA k _ h4
      have pg := chkT_ok hA.at_.calm hA.at_.nd hA.at_.N (sc' := sc) (fun y hy => ⟨locB_ok hy hA.at_.scope, .inl (hA.fn y)⟩) t tg h2
      have he := ((sound hC e X sc W hA.at_).e _ h3).pe
      have hl : ∀ i ∈ t.all, i < X.N.length := by rw [hA.at_.N]; exact chkT_lt h2
      have asn : PS X (.Assign [tg] x pos) (tAsg (tD (wh X cl W) (ev call e)) (gT X.K t)) := by
        unfold unpOk at h1
        split at h1
        · rw [Bool.or_eq_true, Bool.or_eq_true] at h1
          rcases h1 with h1 | h1 | h1
          · exact ps_asg he pg (sole_no rfl) (swst_const h1 hA.kind) rfl
          · refine ps_asg he pg (sole_no rfl) (swst_cell ?_) rfl
            unfold someCell at h1
            rw [List.any_eq_true] at h1
            obtain ⟨t, ht, q⟩ := h1
            refine ⟨t, ht, fun x p e => ?_⟩
            subst e
            intro z
            rw [hA.at_.scope] at z
            simp [localB, z] at q
          · exact ps_asg he pg (sole_no rfl) (swst_len (by simpa using h1)) rfl
        · rename_i hne
          refine ps_asg he pg (sole_no h1) (swst_tup ?_) rfl
          cases x <;> first | rfl | exact (hne _ _ _ rfl).elim
        · cases h1
      cases m with
      | none => exact ss_unp hl asn hk
      | some fz => exact ss_unpz fz hl asn hk
    · cases h
  | .app i e k, sts, h => by
    simp only [chkS] at h
    split at h
    · simp only [Bool.and_eq_true, decide_eq_true_eq] at h
      obtain ⟨⟨⟨⟨⟨⟨⟨h1, h2⟩, h3⟩, h4⟩, h5⟩, h6⟩, h7⟩, h8⟩ := h
      subst h4
      have he := ((sound hC e X sc W hA.at_).e _ h7).pe
      refine ss_app (ta := tCons (tD (wh X cl W) (ev call e)) tNil) (ps_expr (pe_bm PySem.F.plainAttrs_list PySem.F.slot_list_append PySem.F.type_list_append mt_append (pv hA h1 h2 h3) (pa_cons he pa_nil (star_cons h6)) rfl (few_one h6) h5 (star_cons h6) rfl) rfl) (fun σ H Q z => z) (soundS hC hA k _ h8)
    · cases h
  | .sto i ix e k, sts, h => by
    simp only [chkS] at h
    split at h
    · simp only [Bool.and_eq_true, decide_eq_true_eq] at h
      obtain ⟨⟨⟨⟨⟨⟨⟨h1, h2⟩, h3⟩, h4⟩, h5⟩, h6⟩, h7⟩, h8⟩ := h
      exact ss_sto (ps_asg ((sound hC e X sc W hA.at_).e _ h7).pe (pg_sub (pv hA h1 h2 h3) ((sound hC ix X sc W hA.at_).e _ h6).pe set_list (asg_sub h4)) (sole_no h5) swst_sub rfl) (soundS hC hA k _ h8)
    · cases h
  | .aug o i e k, sts, h => by
    simp only [chkS] at h
    split at h
    · simp only [Bool.and_eq_true, decide_eq_true_eq] at h
      obtain ⟨⟨⟨⟨⟨h1, h2⟩, h3⟩, h4⟩, h5⟩, h6⟩ := h
      subst h3
      rename_i y p1 x p2 r
      have hN : X.N[i]? = some y := by rw [hA.at_.N]; exact h1
      have he := ((sound hC e X sc W hA.at_).e _ h5).pe
      have ip : PIp X o.op (ipI (augOp o)) := by
        cases o <;> first | exact ip_add | exact ip_sub | cases h4
      exact ss_aug (ixlt hN) (ps_aug hA.at_.nd hN (locB_ok h2 hA.at_.scope) he ip (.inl (hA.fn _))) (soundS hC hA k _ h6)
    · cases h
  | .expr e k, sts, h => by
    simp only [chkS] at h
    split at h
    · simp only [Bool.and_eq_true] at h
      obtain ⟨⟨h1, h2⟩, h3⟩ := h
      exact ss_expr (ps_expr ((sound hC e X sc W hA.at_).e _ h2).pe (sw_no h1)) (soundS hC hA k _ h3)
    · cases h
  | .ret e, sts, h => by
    simp only [chkS] at h
    split at h
    · exact ss_ret (ps_ret ((sound hC e X sc W hA.at_).e _ h).pe)
    · cases h
  | .ite c a b k, sts, h => by
    simp only [chkS] at h
    split at h
    · simp only [Bool.and_eq_true] at h
      obtain ⟨⟨⟨h1, h2⟩, h3⟩, h4⟩ := h
      exact ss_ite (ps_if ((sound hC c X sc W hA.at_).e _ h1).pt (soundS hC hA a _ h2) (soundS hC hA b _ h3)) (soundS hC hA k _ h4)
    · cases h
  | .for_ t fz it body k, sts, h => by
    simp only [chkS] at h
    split at h
    · simp only [Bool.and_eq_true] at h
      obtain ⟨⟨⟨⟨h1, h2⟩, h3⟩, h4⟩, h5⟩ := h
      rename_i tg x p pos r
      have pg := chkT_ok hA.at_.calm hA.at_.nd hA.at_.N (sc' := sc) (fun y hy => ⟨locB_ok hy hA.at_.scope, .inl (hA.fn y)⟩) t tg h1
      have hl : ∀ i ∈ t.all, i < X.N.length := by rw [hA.at_.N]; exact chkT_lt h1
      exact ss_for fz hl (ps_for hA.po hA.at_.calm ((sound hC it X sc W hA.at_).it tg x h3) pg (soundS hC hA body _ h4) (notSet_ok h2)) (soundS hC hA k _ h5)
    · cases h
  | .while_ n c body k, sts, h => by
    simp only [chkS] at h
    split at h
    · simp only [Bool.and_eq_true] at h
      obtain ⟨⟨h1, h2⟩, h3⟩ := h
      exact ss_while n (ps_while hA.po ((sound hC c X sc W hA.at_).e _ h1).pt (soundS hC hA body _ h2)) (soundS hC hA k _ h3)
    · cases h
  | .raise c, sts, h => by
    simp only [chkS] at h
    split at h
    · have nm := exN_ok hA h
      unfold exN at h
      simp only [Bool.and_eq_true, decide_eq_true_eq] at h
      exact ss_raise (ps_raise hA.at_.calm hA.at_.tk ((hA.exs c _ h.1.1).2 _ _ _ _ _ nm.1 nm.2.1))
    · cases h
  | .try_ b hs k, sts, h => by
    simp only [chkS] at h
    split at h
    · simp only [Bool.and_eq_true] at h
      obtain ⟨⟨h1, h2⟩, h3⟩ := h
      obtain ⟨l, hl⟩ := soundHs (call := call) hA hs _ h2
      exact ss_try hA.hs hA.hf hA.at_.tk hA.exm (fun W' pn xe tk po => soundQ hC (hA.at_.tr pn xe tk) b _ h1) hl (soundS hC hA k _ h3)
    · cases h
  | .pas k, sts, h => by
    simp only [chkS] at h
    split at h
    · exact pss_imp (pss_cons ps_pass (soundS hC hA k _ h)) fun D σ H z => z
    · cases h
  | .fgt fz k, sts, h => by
    simp only [chkS] at h
    exact ss_fgt fz (soundS hC hA k _ h)
end
end DL
namespace DL
open PySem PySem.Spec PyProof.Rows L2
open Classical

/-! ### what the defs of a table give, to a depth -/
def envOf (n : Nat) (xs : List PyData) : Env := xs.map Sl.sh ++ List.replicate (n - xs.length) .un
def fin (r : R Fl) : R PyData := match r with
  | .ok (.next _) => .ok .none
  | .ok (.ret d) => .ok d
  | .ex c => .ex c
  | .bad => .bad
def callT (T : Tab) (run : Nat → List PyData → R PyData) (j : Nat) (xs : List PyData) : R PyData := match T.fns[j]? with
  | some f => run j (xs ++ padOf f xs.length)
  | none => .bad
def runs (T : Tab) (bs : List (Nat × IS)) (mt : Nat → Nat → Option Bool) : Nat → Nat → List PyData → R PyData
  | 0, _, _ => .bad
  | d + 1, j, xs => match bs[j]? with
    | some (n, B) => fin (exec (callT T (runs T bs mt d)) mt B (envOf n xs))
    | none => .bad
theorem callT_ok (T : Tab) (run : Nat → List PyData → R PyData) : CallOk T (callT T run) run := fun j f xs h => by
  unfold callT
  rw [h]
/-- written arguments and defaults reach the def -/
def BindD (K : PySem.W.Frag) (f : FnI) (fd : FuncData) : Prop := ∀ n, n ≤ f.ps.length → f.ps.length - n ≤ f.dfl.length → ∃ dvs ds, Vals dvs ds ∧ (∀ S, RpA K S (padOf f n) dvs) ∧ Binds K fd f.ps ds
/-- what is known of one def -/
structure FnFact (K : PySem.W.Frag) (mg : Str → Option Value) (T : Tab) (bs : List (Nat × IS)) (j : Nat) (f : FnI) (g : Addr) (fd : FuncData) : Prop where
  at_ : mg f.nm = some (.ref g)
  bind : BindD K f fd
  ex : ∃ (N : List Str) (B : IS) (qual : Str) (params : Arguments) (body : List Stmt) (scope : Scope) (dvs : List V) (kws : List (Str × V)), FunD K f.nm qual params body scope dvs kws g fd ∧ FnScope N f.ps scope ∧ bs[j]? = some (N.length, B) ∧ chkS T N B scope body = true
structure TabFact (P : Program) (w : World) (K : PySem.W.Frag) (mg : Str → Option Value) (T : Tab) (bs : List (Nat × IS)) (cl : Nat → Value) (mt : Nat → Nat → Option Bool) : Prop where
  fns : ∀ (j : Nat) (f : FnI), T.fns[j]? = some f → ∃ g fd, FnFact K mg T bs j f g fd
  gls : ∀ (j : Nat) (x : Str) (d : PyData), T.gls[j]? = some (x, d) → ∃ v u, mg x = some u ∧ RelV v u ∧ ∀ S, Rp K S d v
  bls : ∀ x ∈ T.bls, mg x = none
  exs : ∀ (c : Nat) (y : Str), T.exs[c]? = some y → ∃ C, cl c = .ref C ∧ mg y = some (.ref C) ∧ PySem.W.excIn K C He.veBase "ValueError.__new__" = true ∧ PySem.W.keepIn K (.ref C) = true ∧ PySem.W.subIn K (.ref C) (.type "BaseException") = some true ∧ PySem.W.typeIn K (.ref C) = some (.type "type")
  exm : ∀ c c' b, mt c c' = some b → PySem.W.exmOne K (cl c) (cl c') = some b
theorem envR_start {K : PySem.W.Frag} {H S : Hp} {N : List Str} {vs : List V} {ds : List PyData} (hS : Sub S H) (hr : RpA K S ds vs) : EnvR K H S (L2.start N vs) (envOf N.length ds) (fun _ => []) where
  sub := hS
  slot := fun i s e => by
    unfold envOf at e
    have hl := hr.length
    by_cases c : i < ds.length
    · rw [List.getElem?_append_left (by rw [List.length_map]; exact c), List.getElem?_map, List.getElem?_eq_getElem c] at e
      cases e
      obtain ⟨v, e1, e2⟩ := hr.get (List.getElem?_eq_getElem c)
      refine ⟨rfl, v, ?_, e2⟩
      unfold L2.start
      rw [List.getElem?_append_left (by rw [List.length_map]; omega), List.getElem?_map, e1]
      rfl
    · rw [List.getElem?_append_right (by rw [List.length_map]; omega), List.getElem?_replicate] at e
      split at e
      · cases e; exact rfl
      · cases e
  out := fun _ _ => rfl
  nd := fun _ => List.nodup_nil
  apart := fun _ _ _ h _ => by cases h
  free := fun _ _ h => by cases h
theorem chg0 {H S H' S' : Hp} (h : Chg (fun _ => []) H S H' S') (s : Sub S' H') : Grow H S H' S' := ⟨fun b o e => h.keep b o e (fun ⟨_, z⟩ => by cases z), h.s, s, fun b e n => (h.new b e n).resolve_right fun ⟨_, z⟩ => by cases z⟩
section
variable {P : Program} {w : World} {K : PySem.W.Frag} {mg : Str → Option Value} {base : Heap} {T : Tab} {bs : List (Nat × IS)} {cl : Nat → Value} {mt : Nat → Nat → Option Bool}
theorem fn_all (TF : TabFact P w K mg T bs cl mt) : ∀ (d j : Nat) (f : FnI) (g : Addr) (fd : FuncData), T.fns[j]? = some f → FnFact K mg T bs j f g fd → FnOk P w K mg base (CX P w) d g fd f.ps (spD K cl (runs T bs mt d j) f.ps.length)
  | 0, j, f, g, fd, hj, hf => ⟨fun vs H Q E h => h.1, fun A outer s H args us vs Q E _ _ _ _ h => by
      obtain ⟨_, S, ds, _, _, z⟩ := h
      exact z.elim⟩
  | d + 1, j, f, g, fd, hj, hf => by
    obtain ⟨N, B, qual, params, body, scope, dvs, kws, F, S, hb, hc⟩ := hf.ex
    refine F.ok S (fun vs H Q E h => h.1) fun cdv A outer s H vs Q E hr h => ?_
    obtain ⟨hl, S0, ds, hS, hrp, hp⟩ := h
    have hA : AtS T N cl (runs T bs mt d) mt (cxOf (CX P w) P w K mg base N qual scope g cdv A outer s H E) scope (fun cls d _ H => E cls d H) := {
      at_ := {
        calm := rfl
        nd := S.nd
        N := rfl
        scope := rfl
        hu := hr.units
        tk := takes_of rfl rfl rfl rfl
        fns := fun j' f' h' => by
          obtain ⟨g', fd', ff⟩ := TF.fns j' f' h'
          obtain ⟨_, _, _, _, _, _, _, _, F', _⟩ := ff.ex
          exact ⟨d, g', fd', hr, ff.at_, F'.kp, fn_all TF d j' f' g' fd' h' ff, ff.bind⟩
        gls := TF.gls
        bls := TF.bls }
      kind := S.kind
      po := passes_of rfl
      hs := rfl
      hf := rfl
      fn := fun _ => rfl
      exs := fun c y h => by
        obtain ⟨C, e1, e2, e3, e4, e5, e6⟩ := TF.exs c y h
        refine ⟨by rw [e1]; exact e2, fun m jj p p2 pos hg hd => ?_⟩
        rw [e1]
        exact pmk_own PySem.F.excBase_ValueError e3 e2 e4 (raises_own e5 e6) hg hd
      exm := TF.exm }
    refine ⟨_, soundS (callT_ok T _) hA B body hc, ?_⟩
    have hp : post (fin (exec (callT T (runs T bs mt d)) mt B (envOf N.length ds))) (fun d => ∀ v H' S', Grow H S0 H' S' → Rp K S' d v → Q v H') (fun c => ∀ H', Sub H H' → E (cl c) none H') := by
      have hp := hp
      unfold runs at hp
      rw [hb] at hp
      exact hp
    refine tSt_def.mpr ⟨S0, envOf N.length ds, fun _ => [], envR_start hS hrp, ?_⟩
    cases q : exec (callT T (runs T bs mt d)) mt B (envOf N.length ds) with
    | ok r =>
      rw [q] at hp
      cases r with
      | next ρ => exact fun σ' H' S' F' env c u l => hp .non H' S' (chg0 c env.sub) (by simp only [Rp])
      | ret x => exact fun v H' S' s c r => hp v H' S' (chg0 c s) r
    | ex c =>
      rw [q] at hp
      exact fun σ' H' k => hp H' fun b o e => k b o e fun ⟨_, z⟩ => by cases z
    | bad => rw [q] at hp; exact hp.elim
end
end DL
namespace DL
open PySem PySem.Spec PyProof.Rows L2
section
variable {K : PySem.W.Frag} {f : FnI} {fd : FuncData} {dvs : List V}
theorem bind_plain (hd : f.dfl = []) (b : Binds K fd f.ps []) : BindD K f fd := fun n _ _ => ⟨[], [], .nil, fun S => by
  unfold padOf
  rw [hd, List.drop_nil]
  exact RpA.nil, b⟩
theorem bind_1 {m : Nat} (h1 : f.dfl.length = 1) (h2 : f.ps.length = m + 1) (b0 : ∃ ds, Vals (dvs.drop 0) ds ∧ Binds K fd f.ps ds) (b1 : ∃ ds, Vals (dvs.drop 1) ds ∧ Binds K fd f.ps ds) (hr : ∀ S, RpA K S f.dfl dvs) : BindD K f fd := fun n hn hle => by
  rw [h1, h2] at hle
  rw [h2] at hn
  have e : n = m ∨ n = m + 1 := by omega
  rcases e with rfl | rfl
  · obtain ⟨ds, v, b⟩ := b0
    refine ⟨_, ds, v, fun S => ?_, b⟩
    unfold padOf
    rw [h1, h2, show 1 - (n + 1 - n) = 0 by omega]
    exact hr S
  · obtain ⟨ds, v, b⟩ := b1
    refine ⟨_, ds, v, fun S => ?_, b⟩
    unfold padOf
    rw [h1, h2, show 1 - (m + 1 - (m + 1)) = 1 by omega]
    exact (hr S).drop 1
theorem bind_2 {m : Nat} (h1 : f.dfl.length = 2) (h2 : f.ps.length = m + 2) (b0 : ∃ ds, Vals (dvs.drop 0) ds ∧ Binds K fd f.ps ds) (b1 : ∃ ds, Vals (dvs.drop 1) ds ∧ Binds K fd f.ps ds) (b2 : ∃ ds, Vals (dvs.drop 2) ds ∧ Binds K fd f.ps ds) (hr : ∀ S, RpA K S f.dfl dvs) : BindD K f fd := fun n hn hle => by
  rw [h1, h2] at hle
  rw [h2] at hn
  have e : n = m ∨ n = m + 1 ∨ n = m + 2 := by omega
  rcases e with rfl | rfl | rfl
  · obtain ⟨ds, v, b⟩ := b0
    refine ⟨_, ds, v, fun S => ?_, b⟩
    unfold padOf
    rw [h1, h2, show 2 - (n + 2 - n) = 0 by omega]
    exact hr S
  · obtain ⟨ds, v, b⟩ := b1
    refine ⟨_, ds, v, fun S => ?_, b⟩
    unfold padOf
    rw [h1, h2, show 2 - (m + 2 - (m + 1)) = 1 by omega]
    exact (hr S).drop 1
  · obtain ⟨ds, v, b⟩ := b2
    refine ⟨_, ds, v, fun S => ?_, b⟩
    unfold padOf
    rw [h1, h2, show 2 - (m + 2 - (m + 2)) = 2 by omega]
    exact (hr S).drop 2
end
theorem gl_tup {K : PySem.W.Frag} {S : Hp} {a : Addr} {vs : List V} {ds : List PyData} (h : SqT K S a vs) (r : RpA K S ds vs) : Rp K S (.tuple ds) (.ref a) := by
  simp only [Rp]
  exact ⟨a, vs, rfl, h, r⟩
/-- nothing gets out of the law -/
def noE : XK := fun _ _ _ => False
theorem fn_quiet {P : Program} {w : World} {K : PySem.W.Frag} {mg : Str → Option Value} {base : Heap} {k : Nat} {g : Addr} {fd : FuncData} {ps : List Str} {sp : Sp} (F : FnOk P w K mg base (CX P w) k g fd ps sp) :
    FnOk P w K mg base CX0 k g fd ps (fun vs H Q _ => sp vs H Q noE) := ⟨fun vs H Q _ h => F.len vs H Q noE h, fun A outer s H args us vs Q E r e0 b v h => codeAny_mono (F.run A outer s H args us vs Q noE r e0 b v h) fun r s' hq => by
    cases r with
    | error e =>
      obtain ⟨_, _, _, _, _, _, _, _, _, _, _, _, z⟩ := hq
      exact z.elim
    | ok fl => cases fl <;> exact hq⟩
/-- the law's promise over its script -/
theorem law_says {K : PySem.W.Frag} {cl : Nat → Value} {run : List PyData → R PyData} {H : Hp} {a : Addr} {ns : List Int} (hS : SqL K H a (ns.map V.int)) (h : run [locked (ns.map PyData.int)] = .ok (.bool true)) :
    spD K cl run 1 [V.ref a] H (fun v _ => v = V.bl true) noE := by
  refine ⟨rfl, H, [locked (ns.map PyData.int)], Sub.refl _, ?_, ?_⟩
  · refine RpA.cons ?_ RpA.nil
    unfold locked
    simp only [Rp]
    exact ⟨a, ns, rfl, rfl, hS⟩
  · rw [h]
    intro v H' S' g r
    simpa only [Rp] using r
end DL
namespace DL
open PySem PySem.Spec PyProof.Rows L2
/-! ### the same reading, by the recursor itself (the kernel is quicker at it) -/
noncomputable def evK (call : Nat → List PyData → R PyData) (e : IE) : Env → R PyData := IE.rec (motive := fun _ => Env → R PyData)
  (fun i ρ => match ρ[i]? with
    | some s => (match s.val with
      | some d => .ok d
      | none => .bad)
    | none => .bad)
  (fun i _ => .ok (.int i))
  (fun b _ => .ok (.bool b))
  (fun _ => .ok .none)
  (fun x _ => .ok (.str x))
  (fun _ d _ => .ok d)
  (fun o _ _ a b ρ => (a ρ).bind fun x => (b ρ).bind fun y => binD o x y)
  (fun _ a ρ => (a ρ).bind negD)
  (fun o _ _ a b ρ => (a ρ).bind fun x => (b ρ).bind fun y => (cmpD o x y).bind fun k => .ok (.bool k))
  (fun o o' _ _ _ a b c ρ => (a ρ).bind fun x => (b ρ).bind fun y => (cmpD o x y).bind fun k => if k then (c ρ).bind fun z => (cmpD o' y z).bind fun k' => .ok (.bool k') else .ok (.bool false))
  (fun _ a ρ => (a ρ).bind fun x => (truth x).bind fun k => .ok (.bool (!k)))
  (fun _ _ a b ρ => (a ρ).bind fun x => (truth x).bind fun k => if k then b ρ else .ok x)
  (fun _ _ a b ρ => (a ρ).bind fun x => (truth x).bind fun k => if k then .ok x else b ρ)
  (fun _ a ρ => a ρ)
  (fun _ _ _ c a b ρ => (c ρ).bind fun x => (truth x).bind fun k => if k then a ρ else b ρ)
  (fun _ a ρ => a ρ)
  (fun _ a ρ => (a ρ).bind lstD)
  (fun _ _ a i ρ => (a ρ).bind fun x => (i ρ).bind fun y => subD x y)
  (fun _ _ _ a lo hi ρ => (a ρ).bind fun x => (lo ρ).bind fun l => (partD l).bind fun l' => (hi ρ).bind fun h => (partD h).bind fun h' => sliceD x l' h')
  (fun _ a ρ => (a ρ).bind revD)
  (fun j _ es ρ => (es ρ).bind (unT (call j)))
  (fun b _ es ρ => (es ρ).bind (unT (bltD b)))
  (fun _ T a ρ => (a ρ).bind fun x => (isiD x T).bind fun k => .ok (.bool k))
  (fun own _ tg _ _ _ it cond elt ρ => lcD own tg it cond elt ρ)
  (fun _ => .ok (.tuple []))
  (fun _ _ h t ρ => (h ρ).bind fun x => (t ρ).bind (consD x))
  (fun _ => .ok .none)
  (fun _ a ρ => (a ρ).bind numD)
  (fun _ a ρ => (a ρ).bind fun x => (seqOf x).bind fun xs => .ok (.list xs))
  (fun _ a ρ => (a ρ).bind r1D)
  (fun _ _ a b ρ => (a ρ).bind fun x => (b ρ).bind (r2D x))
  (fun _ a ρ => (a ρ).bind fun x => (seqOf x).bind fun xs => .ok (.list (enumFrom 0 xs)))
  (fun _ _ a b ρ => (a ρ).bind fun x => (b ρ).bind fun y => (seqOf x).bind fun xs => (seqOf y).bind fun ys => .ok (.list (zipD xs ys)))
  (fun _ a ρ => (a ρ).bind fun x => (seqOf x).bind fun xs => .ok (.list xs.reverse))
  (fun _ _ _ a b c ρ => (a ρ).bind fun x => (b ρ).bind fun y => (c ρ).bind (r3D x y)) e
theorem ev_evK (call : Nat → List PyData → R PyData) (e : IE) : ev call e = evK call e := by
  induction e <;> (funext ρ; simp only [ev]; first | rfl | (simp only [*]; rfl))
noncomputable def exK (call : Nat → List PyData → R PyData) (mt : Nat → Nat → Option Bool) (st : IS) : Env → R Fl := IS.rec (motive := fun _ => Env → R Fl)
  (fun ρ => .ok (.next ρ))
  (fun m i e _ k ρ => match m with
    | .p => (evK call e ρ).bind fun d => if pure? d then k (ρ.set i (.sh d)) else .bad
    | .f => (evK call e ρ).bind (setF i k ρ)
    | .z fz => (evK call e (hideAt fz 0 ρ)).bind fun d => k ((give fz ρ).set i (.sh d))
    | .fz fz => (evK call e (hideAt fz 0 ρ)).bind (setFz fz i k ρ))
  (fun m is es _ k ρ => match m with
    | none => (evK call es ρ).bind (parD is k ρ)
    | some fz => (evK call es (hideAt fz 0 ρ)).bind (parZ fz is k ρ))
  (fun i j _ k ρ => par0D i j k ρ)
  (fun m t e _ k ρ => match m with
    | none => (evK call e ρ).bind (unpD t k ρ)
    | some fz => (evK call e (hideAt fz 0 ρ)).bind (unpZ fz t k ρ))
  (fun i e _ k ρ => match ρ[i]? with
    | some (.o1 _) => (evK call e ρ).bind (appD i k ρ)
    | _ => .bad)
  (fun i ix e _ k ρ => match ρ[i]? with
    | some (.o1 _) => (evK call e ρ).bind fun d => if pure? d then (evK call ix ρ).bind (stoD i k ρ d) else .bad
    | _ => .bad)
  (fun o i e _ k ρ => match ρ[i]? with
    | some (.sh (.int a)) => (evK call e ρ).bind (augD o i k ρ a)
    | _ => .bad)
  (fun e _ k ρ => (evK call e ρ).bind fun _ => k ρ)
  (fun e ρ => (evK call e ρ).bind fun d => .ok (.ret d))
  (fun c _ _ _ a b k ρ => ((evK call c ρ).bind truth).bind fun t => R.next (if t then a ρ else b ρ) k)
  (fun t fz it _ _ body k ρ => (evK call it (hideAt fz 0 ρ)).bind (forD t fz body k ρ))
  (fun n c _ _ body k ρ => R.next (whileGo (evK call c) body n ρ) k)
  (fun c _ => .ex c)
  (fun b hs _ k ρ => tryD (exq call b ρ) (fun c => exh call mt hs c ρ) k ρ)
  (fun _ k ρ => k ρ)
  (fun fz _ k ρ => k (wipeE ρ fz)) st
theorem ex_exK (call : Nat → List PyData → R PyData) (mt : Nat → Nat → Option Bool) (st : IS) : exec call mt st = exK call mt st := by
  induction st <;> (funext ρ; simp only [exec]; first | rfl | (simp only [ev_evK, *]; rfl))
noncomputable def runK (T : Tab) (bs : List (Nat × IS)) (mt : Nat → Nat → Option Bool) (d : Nat) : Nat → List PyData → R PyData := Nat.rec (motive := fun _ => Nat → List PyData → R PyData)
  (fun _ _ => .bad)
  (fun _ r j xs => match bs[j]? with
    | some (n, B) => fin (exK (callT T r) mt B (envOf n xs))
    | none => .bad) d
theorem runs_runK (T : Tab) (bs : List (Nat × IS)) (mt : Nat → Nat → Option Bool) : ∀ d : Nat, runs T bs mt d = runK T bs mt d
  | 0 => by
    funext j xs
    simp only [runs]
    rfl
  | d + 1 => by
    funext j xs
    simp only [runs, runs_runK T bs mt d, ex_exK]
    rfl
end DL
namespace DL
open PySem PySem.Spec PyProof.Rows L2
/-! ### a frame of which less is known -/
/-- what is looked at in the draws at slot i: places and the numbers they are divided by -/
structure Dr where
  i : Nat
  ok : Int → Int → Bool
  as : List Int
  bs : List Int
structure Dr.Ok (D : Dr) : Prop where
  at_ : ∀ k m, D.ok k m = true → (subD (.list (D.as.map PyData.int)) (.int k)).bind (fun x => binD .mod x (.int m)) = (subD (.list (D.bs.map PyData.int)) (.int k)).bind (fun x => binD .mod x (.int m))
def SlL (D : Dr) (j : Nat) (s s' : Sl) : Prop := if j = D.i then s' = .sh (.list (D.bs.map PyData.int)) ∧ (s = .un ∨ s = .sh (.list (D.as.map PyData.int))) else s = .un ∨ s = s'
structure Ab (D : Dr) (ρ ρ' : Env) : Prop where
  len : ρ.length = ρ'.length
  at_ : ∀ j s s', ρ[j]? = some s → ρ'[j]? = some s' → SlL D j s s'
def Le {α : Type} (r r' : R α) : Prop := r = .bad ∨ r = r'
theorem Le.refl {α : Type} (r : R α) : Le r r := .inr rfl
theorem Le.bind {α β : Type} {r r' : R α} {f g : α → R β} (h : Le r r') (hf : ∀ x, Le (f x) (g x)) : Le (r.bind f) (r'.bind g) := by
  rcases h with h | h
  · subst h; exact .inl rfl
  · subst h
    cases r with
    | ok a => exact hf a
    | ex c => exact .inr rfl
    | bad => exact .inl rfl
section
variable {D : Dr} {ρ ρ' : Env}
theorem Ab.get (h : Ab D ρ ρ') {j : Nat} {s : Sl} (e : ρ[j]? = some s) : ∃ s', ρ'[j]? = some s' ∧ SlL D j s s' := by
  have l : j < ρ'.length := by rw [← h.len]; exact (List.getElem?_eq_some_iff.mp e).1
  exact ⟨_, List.getElem?_eq_getElem l, h.at_ j _ _ e (List.getElem?_eq_getElem l)⟩
theorem Ab.set (h : Ab D ρ ρ') {j : Nat} {s : Sl} (hj : j ≠ D.i) : Ab D (ρ.set j s) (ρ'.set j s) where
  len := by rw [List.length_set, List.length_set]; exact h.len
  at_ := fun k t t' e1 e2 => by
    by_cases c : j = k
    · subst c
      have l : j < ρ.length := by
        have := (List.getElem?_eq_some_iff.mp e1).1
        rwa [List.length_set] at this
      rw [List.getElem?_set_self l] at e1
      rw [List.getElem?_set_self (by rw [← h.len]; exact l)] at e2
      cases e1; cases e2
      unfold SlL
      rw [if_neg hj]
      exact .inr rfl
    · rw [List.getElem?_set_ne c] at e1 e2
      exact h.at_ k t t' e1 e2
theorem Ab.setMany (h : Ab D ρ ρ') : ∀ {is : List Nat} {ds : List PyData}, is.contains D.i = false → Ab D (setMany is ds ρ) (setMany is ds ρ') := by
  intro is
  induction is generalizing ρ ρ' with
  | nil => intro ds _; simpa only [DL.setMany] using h
  | cons i is ih =>
    intro ds hc
    cases ds with
    | nil => simpa only [DL.setMany] using h
    | cons d ds =>
      simp only [List.contains_cons, Bool.or_eq_false_iff] at hc
      simp only [DL.setMany]
      exact ih (h.set fun e => by subst e; simp at hc) hc.2
theorem Ab.wipe (h : Ab D ρ ρ') : ∀ {vs : List Nat}, vs.contains D.i = false → Ab D (wipeE ρ vs) (wipeE ρ' vs)
  | [], _ => h
  | v :: vs, hc => by
    simp only [List.contains_cons, Bool.or_eq_false_iff] at hc
    exact (Ab.wipe h hc.2).set fun e => by subst e; simp at hc
theorem hideAt_at {fz : List Nat} : ∀ {ρ : Env} {n j : Nat}, (hideAt fz n ρ)[j]? = (ρ[j]?).map fun s => match s with
    | .o1 _ => if fz.contains (n + j) then s else .un
    | .o2 _ => if fz.contains (n + j) then s else .un
    | _ => s
  | [], n, j => by simp [hideAt]
  | s :: r, n, 0 => by
    simp only [hideAt, List.getElem?_cons_zero, Option.map_some, Nat.add_zero]
    all_goals (cases s <;> rfl)
  | s :: r, n, j + 1 => by
    simp only [hideAt, List.getElem?_cons_succ]
    rw [hideAt_at, show n + 1 + j = n + (j + 1) by omega]
theorem hideAt_len {fz : List Nat} : ∀ {ρ : Env} {n : Nat}, (hideAt fz n ρ).length = ρ.length
  | [], n => rfl
  | s :: r, n => by simp only [hideAt, List.length_cons, hideAt_len]
theorem Ab.map (h : Ab D ρ ρ') {f : Nat → Sl → Sl} {τ τ' : Env} (e : ∀ j, τ[j]? = (ρ[j]?).map (f j)) (e' : ∀ j, τ'[j]? = (ρ'[j]?).map (f j)) (l : τ.length = ρ.length) (l' : τ'.length = ρ'.length) (hu : ∀ j, f j .un = .un) (hs : ∀ d, f D.i (.sh d) = .sh d) : Ab D τ τ' where
  len := by rw [l, l', h.len]
  at_ := fun j s s' q q' => by
    rw [e] at q
    rw [e'] at q'
    cases r : ρ[j]? with
    | none => rw [r] at q; cases q
    | some t =>
      cases r' : ρ'[j]? with
      | none => rw [r'] at q'; cases q'
      | some t' =>
        rw [r] at q; rw [r'] at q'
        cases q; cases q'
        have z := h.at_ j t t' r r'
        unfold SlL at z ⊢
        split
        · rename_i c
          rw [if_pos c] at z
          subst c
          obtain ⟨z1, z2⟩ := z
          subst z1
          refine ⟨hs _, ?_⟩
          rcases z2 with rfl | rfl
          · exact .inl (hu _)
          · exact .inr (hs _)
        · rename_i c
          rw [if_neg c] at z
          rcases z with rfl | rfl
          · exact .inl (hu _)
          · exact .inr rfl
theorem Ab.hide (h : Ab D ρ ρ') (fz : List Nat) : Ab D (hideAt fz 0 ρ) (hideAt fz 0 ρ') :=
  h.map (f := fun j s => match s with
    | .o1 _ => if fz.contains (0 + j) then s else .un
    | .o2 _ => if fz.contains (0 + j) then s else .un
    | _ => s) (fun j => hideAt_at) (fun j => hideAt_at) hideAt_len hideAt_len (fun _ => rfl) (fun _ => rfl)
theorem Ab.give (h : Ab D ρ ρ') (fz : List Nat) : Ab D (give fz ρ) (give fz ρ') :=
  h.map (f := fun j s => if j ∈ fz then giveUp s else s) (fun j => by rw [give_get]; split <;> simp) (fun j => by rw [give_get]; split <;> simp) give_length give_length (fun j => by split <;> rfl) (fun d => by split <;> rfl)
/-- a target's values -/
def bindV (t : Tg) (d : PyData) : Option (List PyData) := match t with
  | .one _ => some [d]
  | .many is => (match d with
    | .tuple ds => if ds.length = is.length then some ds else none
    | _ => none)
theorem bindMany_is : ∀ {is : List Nat} {ds : List PyData} {ρ : Env}, bindMany is ds ρ = if ds.length = is.length then some (setMany is ds ρ) else none
  | [], [], ρ => by simp [bindMany, setMany]
  | [], _ :: _, ρ => by simp [bindMany]
  | _ :: _, [], ρ => by simp [bindMany]
  | i :: is, d :: ds, ρ => by
    simp only [bindMany, setMany, List.length_cons, Nat.add_right_cancel_iff]
    exact bindMany_is
theorem bindT_is {t : Tg} {d : PyData} {ρ : Env} : bindT t d ρ = (bindV t d).map fun ds => setMany t.all ds ρ := by
  cases t with
  | one i => simp [bindT, bindV, Tg.all, setMany]
  | many is =>
    cases d <;> simp only [bindT, bindV, Option.map_none]
    rw [bindMany_is]
    split <;> simp [Tg.all]
theorem Ab.bind (h : Ab D ρ ρ') {t : Tg} {d : PyData} (hc : t.all.contains D.i = false) : (bindT t d ρ = none ∧ bindT t d ρ' = none) ∨ ∃ τ τ', bindT t d ρ = some τ ∧ bindT t d ρ' = some τ' ∧ Ab D τ τ' := by
  rw [bindT_is, bindT_is]
  cases bindV t d with
  | none => exact .inl ⟨rfl, rfl⟩
  | some ds => exact .inr ⟨_, _, rfl, rfl, h.setMany hc⟩
end
/-- does an expression look at the draws in the allowed ways alone? -/
def drawB (D : Dr) (o : Bop) (a b : IE) : Bool := match o, a, b with
  | .mod, .sub (.var j) (.int k), .int m => decide (j = D.i) && D.ok k m
  | _, _, _ => false
def okE (D : Dr) (e : IE) : Bool := match e with
  | .var j => !decide (j = D.i)
  | .int _ => true
  | .bl _ => true
  | .non => true
  | .str _ => true
  | .glob _ _ => true
  | .bin o a b => drawB D o a b || (okE D a && okE D b)
  | .neg a => okE D a
  | .cmp _ a b => okE D a && okE D b
  | .chain _ _ a b c => okE D a && okE D b && okE D c
  | .not a => okE D a
  | .and a b => okE D a && okE D b
  | .or a b => okE D a && okE D b
  | .one a => okE D a
  | .ite c a b => okE D c && okE D a && okE D b
  | .tup a => okE D a
  | .lst a => okE D a
  | .sub a b => okE D a && okE D b
  | .slice a b c => okE D a && okE D b && okE D c
  | .rev a => okE D a
  | .call _ a => okE D a
  | .blt _ a => okE D a
  | .isi a _ => okE D a
  | .lc own _ t it c e => !own.contains D.i && !t.all.contains D.i && okE D it && okE D c && okE D e
  | .enil => true
  | .econs a b => okE D a && okE D b
  | .nopart => true
  | .part a => okE D a
  | .iseq a => okE D a
  | .ir1 a => okE D a
  | .ir2 a b => okE D a && okE D b
  | .ienum a => okE D a
  | .izip a b => okE D a && okE D b
  | .irev a => okE D a
  | .ir3 a b c => okE D a && okE D b && okE D c
termination_by structural e
theorem lcGo_le {D : Dr} {t : Tg} {fc fe : Env → R PyData} (hc : t.all.contains D.i = false) (h1 : ∀ ρ ρ', Ab D ρ ρ' → Le (fc ρ) (fc ρ')) (h2 : ∀ ρ ρ', Ab D ρ ρ' → Le (fe ρ) (fe ρ')) {ρ ρ' : Env} (h : Ab D ρ ρ') : ∀ xs, Le (lcGo t fc fe ρ xs) (lcGo t fc fe ρ' xs)
  | [] => .inr rfl
  | d :: ds => by
    unfold lcGo
    rcases h.bind (d := d) hc with ⟨e1, e2⟩ | ⟨τ, τ', e1, e2, a⟩
    · rw [e1, e2]; exact .inr rfl
    · rw [e1, e2]
      dsimp only
      rcases Le.bind (h1 _ _ a) (fun x => Le.refl (truth x)) with q | q
      · rw [q]; exact .inl rfl
      · rw [q]
        have ih := lcGo_le hc h1 h2 h ds
        cases (fc τ').bind truth with
        | ok b =>
          cases b with
          | true =>
            dsimp only
            rcases h2 _ _ a with q2 | q2
            · rw [q2]; exact .inl rfl
            · rw [q2]
              cases fe τ' with
              | ok y =>
                dsimp only
                rcases ih with q3 | q3
                · rw [q3]; exact .inl rfl
                · rw [q3]; exact .inr rfl
              | ex c => exact .inr rfl
              | bad => exact .inr rfl
          | false => exact ih
        | ex c => exact .inr rfl
        | bad => exact .inr rfl
theorem ev_le {D : Dr} (hD : D.Ok) (call : Nat → List PyData → R PyData) (e : IE) : okE D e = true → ∀ ρ ρ', Ab D ρ ρ' → Le (ev call e ρ) (ev call e ρ') := by
  induction e with
  | var j =>
    intro h ρ ρ' a
    simp only [okE, Bool.not_eq_true', decide_eq_false_iff_not] at h
    simp only [ev]
    cases e : ρ[j]? with
    | none => exact .inl rfl
    | some s =>
      obtain ⟨s', e', z⟩ := a.get e
      unfold SlL at z
      rw [if_neg h] at z
      rw [e']
      rcases z with rfl | rfl
      · exact .inl rfl
      · exact .inr rfl
  | int i => intro _ ρ ρ' _; exact .inr (by simp only [ev])
  | bl i => intro _ ρ ρ' _; exact .inr (by simp only [ev])
  | non => intro _ ρ ρ' _; exact .inr (by simp only [ev])
  | str i => intro _ ρ ρ' _; exact .inr (by simp only [ev])
  | glob i d => intro _ ρ ρ' _; exact .inr (by simp only [ev])
  | enil => intro _ ρ ρ' _; exact .inr (by simp only [ev])
  | nopart => intro _ ρ ρ' _; exact .inr (by simp only [ev])
  | bin o x y ihx ihy =>
    intro h ρ ρ' a
    simp only [okE, Bool.or_eq_true, Bool.and_eq_true] at h
    rcases h with h | ⟨h1, h2⟩
    · unfold drawB at h
      split at h
      · rename_i j k m
        simp only [Bool.and_eq_true, decide_eq_true_eq] at h
        obtain ⟨rfl, hk⟩ := h
        have q := hD.at_ k m hk
        simp only [ev]
        cases e : ρ[D.i]? with
        | none => exact .inl rfl
        | some s =>
          obtain ⟨s', e', z⟩ := a.get e
          unfold SlL at z
          rw [if_pos rfl] at z
          obtain ⟨rfl, z⟩ := z
          rw [e']
          rcases z with rfl | rfl
          · exact .inl rfl
          · exact .inr q
      · cases h
    · simp only [ev]
      exact Le.bind (ihx h1 _ _ a) fun x => Le.bind (ihy h2 _ _ a) fun y => Le.refl _
  | lc own own' t it c e ihi ihc ihe =>
    intro h ρ ρ' a
    simp only [okE, Bool.and_eq_true, Bool.not_eq_true'] at h
    obtain ⟨⟨⟨⟨h1, h2⟩, h3⟩, h4⟩, h5⟩ := h
    simp only [ev]
    unfold lcD
    refine Le.bind (ihi h3 _ _ a) fun x => ?_
    cases x <;> try exact .inr rfl
    dsimp only
    split
    · rcases lcGo_le h2 (ihc h4) (ihe h5) (a.wipe h1) _ with q | q
      · rw [q]; exact .inl rfl
      · rw [q]; exact .inr rfl
    · exact .inr rfl
  | chain o o' x y z ihx ihy ihz =>
    intro h ρ ρ' a
    simp only [okE, Bool.and_eq_true] at h
    simp only [ev]
    refine Le.bind (ihx h.1.1 _ _ a) fun x => Le.bind (ihy h.1.2 _ _ a) fun y => Le.bind (Le.refl _) fun k => ?_
    split
    · exact Le.bind (ihz h.2 _ _ a) fun z => Le.refl _
    · exact Le.refl _
  | and x y ihx ihy =>
    intro h ρ ρ' a
    simp only [okE, Bool.and_eq_true] at h
    simp only [ev]
    refine Le.bind (ihx h.1 _ _ a) fun x => Le.bind (Le.refl _) fun k => ?_
    split
    · exact ihy h.2 _ _ a
    · exact Le.refl _
  | or x y ihx ihy =>
    intro h ρ ρ' a
    simp only [okE, Bool.and_eq_true] at h
    simp only [ev]
    refine Le.bind (ihx h.1 _ _ a) fun x => Le.bind (Le.refl _) fun k => ?_
    split
    · exact Le.refl _
    · exact ihy h.2 _ _ a
  | ite c x y ihc ihx ihy =>
    intro h ρ ρ' a
    simp only [okE, Bool.and_eq_true] at h
    simp only [ev]
    refine Le.bind (ihc h.1.1 _ _ a) fun x => Le.bind (Le.refl _) fun k => ?_
    split
    · exact ihx h.1.2 _ _ a
    · exact ihy h.2 _ _ a
  | slice x y z ihx ihy ihz =>
    intro h ρ ρ' a
    simp only [okE, Bool.and_eq_true] at h
    simp only [ev]
    exact Le.bind (ihx h.1.1 _ _ a) fun x => Le.bind (ihy h.1.2 _ _ a) fun y => Le.bind (Le.refl _) fun y' => Le.bind (ihz h.2 _ _ a) fun z => Le.refl _
  | ir3 x y z ihx ihy ihz =>
    intro h ρ ρ' a
    simp only [okE, Bool.and_eq_true] at h
    simp only [ev]
    exact Le.bind (ihx h.1.1 _ _ a) fun x => Le.bind (ihy h.1.2 _ _ a) fun y => Le.bind (ihz h.2 _ _ a) fun z => Le.refl _
  | neg x ih => intro h ρ ρ' a; simp only [okE] at h; simp only [ev]; exact Le.bind (ih h _ _ a) fun x => Le.refl _
  | not x ih => intro h ρ ρ' a; simp only [okE] at h; simp only [ev]; exact Le.bind (ih h _ _ a) fun x => Le.refl _
  | lst x ih => intro h ρ ρ' a; simp only [okE] at h; simp only [ev]; exact Le.bind (ih h _ _ a) fun x => Le.refl _
  | rev x ih => intro h ρ ρ' a; simp only [okE] at h; simp only [ev]; exact Le.bind (ih h _ _ a) fun x => Le.refl _
  | call j x ih => intro h ρ ρ' a; simp only [okE] at h; simp only [ev]; exact Le.bind (ih h _ _ a) fun x => Le.refl _
  | blt j x ih => intro h ρ ρ' a; simp only [okE] at h; simp only [ev]; exact Le.bind (ih h _ _ a) fun x => Le.refl _
  | isi x j ih => intro h ρ ρ' a; simp only [okE] at h; simp only [ev]; exact Le.bind (ih h _ _ a) fun x => Le.refl _
  | part x ih => intro h ρ ρ' a; simp only [okE] at h; simp only [ev]; exact Le.bind (ih h _ _ a) fun x => Le.refl _
  | iseq x ih => intro h ρ ρ' a; simp only [okE] at h; simp only [ev]; exact Le.bind (ih h _ _ a) fun x => Le.refl _
  | ir1 x ih => intro h ρ ρ' a; simp only [okE] at h; simp only [ev]; exact Le.bind (ih h _ _ a) fun x => Le.refl _
  | ienum x ih => intro h ρ ρ' a; simp only [okE] at h; simp only [ev]; exact Le.bind (ih h _ _ a) fun x => Le.refl _
  | irev x ih => intro h ρ ρ' a; simp only [okE] at h; simp only [ev]; exact Le.bind (ih h _ _ a) fun x => Le.refl _
  | one x ih => intro h ρ ρ' a; simp only [okE] at h; simp only [ev]; exact ih h _ _ a
  | tup x ih => intro h ρ ρ' a; simp only [okE] at h; simp only [ev]; exact ih h _ _ a
  | cmp o x y ihx ihy => intro h ρ ρ' a; simp only [okE, Bool.and_eq_true] at h; simp only [ev]; exact Le.bind (ihx h.1 _ _ a) fun x => Le.bind (ihy h.2 _ _ a) fun y => Le.refl _
  | sub x y ihx ihy => intro h ρ ρ' a; simp only [okE, Bool.and_eq_true] at h; simp only [ev]; exact Le.bind (ihx h.1 _ _ a) fun x => Le.bind (ihy h.2 _ _ a) fun y => Le.refl _
  | econs x y ihx ihy => intro h ρ ρ' a; simp only [okE, Bool.and_eq_true] at h; simp only [ev]; exact Le.bind (ihx h.1 _ _ a) fun x => Le.bind (ihy h.2 _ _ a) fun y => Le.refl _
  | ir2 x y ihx ihy => intro h ρ ρ' a; simp only [okE, Bool.and_eq_true] at h; simp only [ev]; exact Le.bind (ihx h.1 _ _ a) fun x => Le.bind (ihy h.2 _ _ a) fun y => Le.refl _
  | izip x y ihx ihy => intro h ρ ρ' a; simp only [okE, Bool.and_eq_true] at h; simp only [ev]; exact Le.bind (ihx h.1 _ _ a) fun x => Le.bind (ihy h.2 _ _ a) fun y => Le.refl _
end DL
namespace DL
open PySem PySem.Spec PyProof.Rows L2
def LeF (D : Dr) (r r' : R Fl) : Prop := match r with
  | .bad => True
  | .ex c => r' = .ex c
  | .ok (.ret d) => r' = .ok (.ret d)
  | .ok (.next ρ) => ∃ ρ', r' = .ok (.next ρ') ∧ Ab D ρ ρ'
def okQ (D : Dr) (b : IQ) : Bool := match b with
  | .done => true
  | .expr e k => okE D e && okQ D k
  | .ite c a b k => okE D c && okQ D a && okQ D b && okQ D k
termination_by structural b
def okH (D : Dr) (h : Hs) : Bool := match h with
  | .nil => true
  | .ret _ e r => okE D e && okH D r
  | .pas _ r => okH D r
termination_by structural h
def okS (D : Dr) (s : IS) : Bool := match s with
  | .done => true
  | .set _ i e k => !decide (i = D.i) && okE D e && okS D k
  | .par _ is e k => !is.contains D.i && okE D e && okS D k
  | .par0 i j k => !decide (i = D.i) && !decide (j = D.i) && okS D k
  | .unp _ t e k => !t.all.contains D.i && okE D e && okS D k
  | .app i e k => !decide (i = D.i) && okE D e && okS D k
  | .sto i x e k => !decide (i = D.i) && okE D x && okE D e && okS D k
  | .aug _ i e k => !decide (i = D.i) && okE D e && okS D k
  | .expr e k => okE D e && okS D k
  | .ret e => okE D e
  | .ite c a b k => okE D c && okS D a && okS D b && okS D k
  | .for_ t _ it b k => !t.all.contains D.i && okE D it && okS D b && okS D k
  | .while_ _ c b k => okE D c && okS D b && okS D k
  | .raise _ => true
  | .try_ b h k => okQ D b && okH D h && okS D k
  | .pas k => okS D k
  | .fgt fz k => !fz.contains D.i && okS D k
termination_by structural s
section
variable {D : Dr}
theorem LeF.bad {r' : R Fl} : LeF D .bad r' := trivial
theorem LeF.bind {α : Type} {r r' : R α} {f g : α → R Fl} (h : Le r r') (hf : ∀ x, LeF D (f x) (g x)) : LeF D (r.bind f) (r'.bind g) := by
  rcases h with h | h
  · subst h; exact trivial
  · subst h
    cases r with
    | ok a => exact hf a
    | ex c => exact rfl
    | bad => exact trivial
theorem LeF.next {r r' : R Fl} {f g : Env → R Fl} (h : LeF D r r') (hf : ∀ ρ ρ', Ab D ρ ρ' → LeF D (f ρ) (g ρ')) : LeF D (R.next r f) (R.next r' g) := by
  cases r with
  | ok x =>
    cases x with
    | next ρ =>
      obtain ⟨ρ', e, a⟩ := h
      subst e
      exact hf _ _ a
    | ret d =>
      have e : r' = .ok (.ret d) := h
      subst e
      exact rfl
  | ex c =>
    have e : r' = .ex c := h
    subst e
    exact rfl
  | bad => exact trivial
theorem forGo_le {t : Tg} {fb : Env → R Fl} (hc : t.all.contains D.i = false) (hb : ∀ ρ ρ', Ab D ρ ρ' → LeF D (fb ρ) (fb ρ')) : ∀ (xs : List PyData) (ρ ρ' : Env), Ab D ρ ρ' → LeF D (forGo t fb xs ρ) (forGo t fb xs ρ')
  | [], ρ, ρ', a => ⟨ρ', rfl, a⟩
  | d :: ds, ρ, ρ', a => by
    unfold forGo
    rcases a.bind (d := d) hc with ⟨e1, e2⟩ | ⟨τ, τ', e1, e2, a2⟩
    · rw [e1, e2]; exact trivial
    · rw [e1, e2]
      exact LeF.next (f := fun ρ => forGo t fb ds ρ) (g := fun ρ => forGo t fb ds ρ) (hb _ _ a2) fun σ σ' z => forGo_le hc hb ds σ σ' z
theorem whileGo_le {fc : Env → R PyData} {fb : Env → R Fl} (h1 : ∀ ρ ρ', Ab D ρ ρ' → Le (fc ρ) (fc ρ')) (hb : ∀ ρ ρ', Ab D ρ ρ' → LeF D (fb ρ) (fb ρ')) : ∀ (n : Nat) (ρ ρ' : Env), Ab D ρ ρ' → LeF D (whileGo fc fb n ρ) (whileGo fc fb n ρ')
  | 0, ρ, ρ', a => trivial
  | n + 1, ρ, ρ', a => by
    unfold whileGo
    refine LeF.bind (Le.bind (h1 _ _ a) fun x => Le.refl _) fun k => ?_
    split
    · exact LeF.next (f := fun ρ => whileGo fc fb n ρ) (g := fun ρ => whileGo fc fb n ρ) (hb _ _ a) fun σ σ' z => whileGo_le h1 hb n σ σ' z
    · exact ⟨ρ', rfl, a⟩
variable (hD : D.Ok) (call : Nat → List PyData → R PyData) (mt : Nat → Nat → Option Bool)
include hD in
theorem exq_le : ∀ (b : IQ), okQ D b = true → ∀ ρ ρ', Ab D ρ ρ' → Le (exq call b ρ) (exq call b ρ')
  | .done, _, ρ, ρ', a => .inr (by simp only [exq])
  | .expr e k, h, ρ, ρ', a => by
    simp only [okQ, Bool.and_eq_true] at h
    simp only [exq]
    exact Le.bind (ev_le hD call e h.1 _ _ a) fun x => exq_le k h.2 _ _ a
  | .ite c x y k, h, ρ, ρ', a => by
    simp only [okQ, Bool.and_eq_true] at h
    simp only [exq]
    refine Le.bind (Le.bind (ev_le hD call c h.1.1.1 _ _ a) fun x => Le.refl _) fun t => Le.bind ?_ fun u => exq_le k h.2 _ _ a
    split
    · exact exq_le x h.1.1.2 _ _ a
    · exact exq_le y h.1.2 _ _ a
include hD in
theorem exh_le (c : Nat) : ∀ (b : Hs), okH D b = true → ∀ ρ ρ', Ab D ρ ρ' → Le (exh call mt b c ρ) (exh call mt b c ρ')
  | .nil, _, ρ, ρ', a => .inr (by simp only [exh])
  | .ret c' e r, h, ρ, ρ', a => by
    simp only [okH, Bool.and_eq_true] at h
    simp only [exh]
    cases mt c c' with
    | none => exact .inl rfl
    | some b =>
      cases b with
      | true =>
        rcases ev_le hD call e h.1 _ _ a with q | q
        · dsimp only
          rw [q]
          exact .inl rfl
        · dsimp only
          rw [q]
          exact .inr rfl
      | false => exact exh_le c r h.2 _ _ a
  | .pas c' r, h, ρ, ρ', a => by
    simp only [okH] at h
    simp only [exh]
    cases mt c c' with
    | none => exact .inl rfl
    | some b =>
      cases b with
      | true => exact .inr rfl
      | false => exact exh_le c r h _ _ a
theorem Ab.ne (a : Ab D ρ ρ') {i : Nat} (h : i ≠ D.i) : ρ[i]? = some .un ∨ ρ[i]? = ρ'[i]? := by
  cases e : ρ[i]? with
  | none =>
    refine .inr ?_
    rw [List.getElem?_eq_none (by have := List.getElem?_eq_none_iff.mp e; rw [← a.len]; exact this)]
  | some s =>
    obtain ⟨s', e', z⟩ := a.get e
    unfold SlL at z
    rw [if_neg h] at z
    rcases z with rfl | rfl
    · exact .inl rfl
    · exact .inr e'.symm
include hD in
theorem ex_le (s : IS) : okS D s = true → ∀ ρ ρ', Ab D ρ ρ' → LeF D (exec call mt s ρ) (exec call mt s ρ') := by
  induction s with
  | done => intro _ ρ ρ' a; simp only [exec]; exact ⟨ρ', rfl, a⟩
  | set m i e k ih =>
    intro h ρ ρ' a
    simp only [okS, Bool.and_eq_true, Bool.not_eq_true', decide_eq_false_iff_not] at h
    obtain ⟨⟨h1, h2⟩, h3⟩ := h
    simp only [exec]
    cases m with
    | p =>
      refine LeF.bind (ev_le hD call e h2 _ _ a) fun d => ?_
      split
      · exact ih h3 _ _ (a.set h1)
      · exact trivial
    | f =>
      refine LeF.bind (ev_le hD call e h2 _ _ a) fun d => ?_
      unfold setF
      cases d <;> try exact trivial
      dsimp only
      rw [a.len]
      split
      · exact ih h3 _ _ (a.set h1)
      · exact trivial
    | z fz => exact LeF.bind (ev_le hD call e h2 _ _ (a.hide fz)) fun d => ih h3 _ _ ((a.give fz).set h1)
    | fz fz =>
      refine LeF.bind (ev_le hD call e h2 _ _ (a.hide fz)) fun d => ?_
      unfold setFz
      cases d <;> try exact trivial
      dsimp only
      rw [a.len]
      split
      · exact ih h3 _ _ ((a.give fz).set h1)
      · exact trivial
  | par m is e k ih =>
    intro h ρ ρ' a
    simp only [okS, Bool.and_eq_true, Bool.not_eq_true'] at h
    obtain ⟨⟨h1, h2⟩, h3⟩ := h
    simp only [exec]
    cases m with
    | none =>
      refine LeF.bind (ev_le hD call e h2 _ _ a) fun d => ?_
      unfold parD
      cases d <;> try exact trivial
      dsimp only
      split
      · exact ih h3 _ _ (a.setMany h1)
      · exact trivial
    | some fz =>
      refine LeF.bind (ev_le hD call e h2 _ _ (a.hide fz)) fun d => ?_
      unfold parZ
      cases d <;> try exact trivial
      dsimp only
      split
      · exact ih h3 _ _ ((a.give fz).setMany h1)
      · exact trivial
  | par0 i j k ih =>
    intro h ρ ρ' a
    simp only [okS, Bool.and_eq_true, Bool.not_eq_true', decide_eq_false_iff_not] at h
    simp only [exec]
    unfold par0D
    rw [a.len]
    split
    · exact ih h.2 _ _ ((a.set h.1.1).set h.1.2)
    · exact trivial
  | unp m t e k ih =>
    intro h ρ ρ' a
    simp only [okS, Bool.and_eq_true, Bool.not_eq_true'] at h
    obtain ⟨⟨h1, h2⟩, h3⟩ := h
    simp only [exec]
    cases m with
    | none =>
      refine LeF.bind (ev_le hD call e h2 _ _ a) fun d => ?_
      unfold unpD
      split
      · rcases a.bind (d := d) h1 with ⟨e1, e2⟩ | ⟨τ, τ', e1, e2, a2⟩
        · rw [e1, e2]; exact trivial
        · rw [e1, e2]; exact ih h3 _ _ a2
      · exact trivial
    | some fz =>
      refine LeF.bind (ev_le hD call e h2 _ _ (a.hide fz)) fun d => ?_
      unfold unpZ
      rcases (a.give fz).bind (d := d) h1 with ⟨e1, e2⟩ | ⟨τ, τ', e1, e2, a2⟩
      · rw [e1, e2]; exact trivial
      · rw [e1, e2]; exact ih h3 _ _ a2
  | app i e k ih =>
    intro h ρ ρ' a
    simp only [okS, Bool.and_eq_true, Bool.not_eq_true', decide_eq_false_iff_not] at h
    obtain ⟨⟨h1, h2⟩, h3⟩ := h
    simp only [exec]
    rcases a.ne h1 with q | q
    · rw [q]; exact trivial
    · rw [q]
      split
      · rename_i e0
        refine LeF.bind (ev_le hD call e h2 _ _ a) fun d => ?_
        unfold appD
        split
        · rw [q]
          rw [e0]
          dsimp only
          split
          · exact ih h3 _ _ (a.set h1)
          · exact trivial
        · exact trivial
      · exact trivial
  | sto i x e k ih =>
    intro h ρ ρ' a
    simp only [okS, Bool.and_eq_true, Bool.not_eq_true', decide_eq_false_iff_not] at h
    obtain ⟨⟨⟨h1, h2⟩, h3⟩, h4⟩ := h
    simp only [exec]
    rcases a.ne h1 with q | q
    · rw [q]; exact trivial
    · rw [q]
      split
      · rename_i e0
        refine LeF.bind (ev_le hD call e h3 _ _ a) fun d => ?_
        split
        · refine LeF.bind (ev_le hD call x h2 _ _ a) fun j => ?_
          unfold stoD
          rw [q, e0]
          cases j <;> try exact trivial
          dsimp only
          split
          · exact ih h4 _ _ (a.set h1)
          · exact trivial
        · exact trivial
      · exact trivial
  | aug o i e k ih =>
    intro h ρ ρ' a
    simp only [okS, Bool.and_eq_true, Bool.not_eq_true', decide_eq_false_iff_not] at h
    obtain ⟨⟨h1, h2⟩, h3⟩ := h
    simp only [exec]
    rcases a.ne h1 with q | q
    · rw [q]; exact trivial
    · rw [q]
      split
      · refine LeF.bind (ev_le hD call e h2 _ _ a) fun d => ?_
        unfold augD
        cases d <;> try exact trivial
        exact ih h3 _ _ (a.set h1)
      · exact trivial
  | expr e k ih =>
    intro h ρ ρ' a
    simp only [okS, Bool.and_eq_true] at h
    simp only [exec]
    exact LeF.bind (ev_le hD call e h.1 _ _ a) fun d => ih h.2 _ _ a
  | ret e =>
    intro h ρ ρ' a
    simp only [okS] at h
    simp only [exec]
    exact LeF.bind (ev_le hD call e h _ _ a) fun d => rfl
  | ite c x y k ihx ihy ihk =>
    intro h ρ ρ' a
    simp only [okS, Bool.and_eq_true] at h
    simp only [exec]
    refine LeF.bind (Le.bind (ev_le hD call c h.1.1.1 _ _ a) fun x => Le.refl _) fun t => LeF.next ?_ fun σ σ' z => ihk h.2 _ _ z
    split
    · exact ihx h.1.1.2 _ _ a
    · exact ihy h.1.2 _ _ a
  | for_ t fz it b k ihb ihk =>
    intro h ρ ρ' a
    simp only [okS, Bool.and_eq_true, Bool.not_eq_true'] at h
    obtain ⟨⟨⟨h1, h2⟩, h3⟩, h4⟩ := h
    simp only [exec]
    refine LeF.bind (ev_le hD call it h2 _ _ (a.hide fz)) fun d => ?_
    unfold forD
    cases d <;> try exact trivial
    exact LeF.next (forGo_le h1 (ihb h3) _ _ _ (a.give fz)) fun σ σ' z => ihk h4 _ _ z
  | while_ n c b k ihb ihk =>
    intro h ρ ρ' a
    simp only [okS, Bool.and_eq_true] at h
    simp only [exec]
    exact LeF.next (whileGo_le (ev_le hD call c h.1.1) (ihb h.1.2) _ _ _ a) fun σ σ' z => ihk h.2 _ _ z
  | raise c => intro _ ρ ρ' a; simp only [exec]; exact rfl
  | try_ b hs k ih =>
    intro h ρ ρ' a
    simp only [okS, Bool.and_eq_true] at h
    simp only [exec]
    unfold tryD
    rcases exq_le hD call b h.1.1 _ _ a with q | q
    · rw [q]; exact trivial
    · rw [q]
      cases exq call b ρ' with
      | ok u => exact ih h.2 _ _ a
      | ex c =>
        refine LeF.bind (exh_le hD call mt c hs h.1.2 _ _ a) fun o => ?_
        cases o with
        | some d => exact rfl
        | none => exact ih h.2 _ _ a
      | bad => exact trivial
  | pas k ih => intro h ρ ρ' a; simp only [okS] at h; simp only [exec]; exact ih h _ _ a
  | fgt fz k ih =>
    intro h ρ ρ' a
    simp only [okS, Bool.and_eq_true, Bool.not_eq_true'] at h
    simp only [exec]
    exact ih h.2 _ _ (a.wipe h.1)
end
end DL
namespace DL
open PySem PySem.Spec PyProof.Rows L2
/-! ### one behind another -/
def IS.thn (a b : IS) : IS := match a with
  | .done => b
  | .set m i e k => .set m i e (k.thn b)
  | .par m is e k => .par m is e (k.thn b)
  | .par0 i j k => .par0 i j (k.thn b)
  | .unp m t e k => .unp m t e (k.thn b)
  | .app i e k => .app i e (k.thn b)
  | .sto i x e k => .sto i x e (k.thn b)
  | .aug o i e k => .aug o i e (k.thn b)
  | .expr e k => .expr e (k.thn b)
  | .ret e => .ret e
  | .ite c x y k => .ite c x y (k.thn b)
  | .for_ t fz it x k => .for_ t fz it x (k.thn b)
  | .while_ n c x k => .while_ n c x (k.thn b)
  | .raise c => .raise c
  | .try_ x h k => .try_ x h (k.thn b)
  | .pas k => .pas (k.thn b)
  | .fgt fz k => .fgt fz (k.thn b)
termination_by structural a
theorem R.bind_next {α : Type} {r : R α} {f : α → R Fl} {g : Env → R Fl} : R.next (r.bind f) g = r.bind fun x => R.next (f x) g := by
  cases r <;> rfl
theorem R.next_next {r : R Fl} {f g : Env → R Fl} : R.next (R.next r f) g = R.next r fun ρ => R.next (f ρ) g := by
  cases r with
  | ok x => cases x <;> rfl
  | _ => rfl
section
variable (call : Nat → List PyData → R PyData) (mt : Nat → Nat → Option Bool)
theorem exec_thn (a b : IS) : ∀ ρ, exec call mt (a.thn b) ρ = R.next (exec call mt a ρ) (exec call mt b) := by
  induction a with
  | done => intro ρ; simp only [IS.thn, exec]; rfl
  | set m i e k ih =>
    intro ρ
    cases m <;> simp only [IS.thn, exec, R.bind_next] <;> congr 1 <;> funext d
    · split
      · exact ih _
      · rfl
    · unfold setF
      cases d <;> try rfl
      dsimp only
      split
      · exact ih _
      · rfl
    · exact ih _
    · unfold setFz
      cases d <;> try rfl
      dsimp only
      split
      · exact ih _
      · rfl
  | par m is e k ih =>
    intro ρ
    cases m <;> simp only [IS.thn, exec, R.bind_next] <;> congr 1 <;> funext d
    · unfold parD
      cases d <;> try rfl
      dsimp only
      split
      · exact ih _
      · rfl
    · unfold parZ
      cases d <;> try rfl
      dsimp only
      split
      · exact ih _
      · rfl
  | par0 i j k ih =>
    intro ρ
    simp only [IS.thn, exec]
    unfold par0D
    split
    · exact ih _
    · rfl
  | unp m t e k ih =>
    intro ρ
    cases m <;> simp only [IS.thn, exec, R.bind_next] <;> congr 1 <;> funext d
    · unfold unpD
      split
      · split
        · exact ih _
        · rfl
      · rfl
    · unfold unpZ
      split
      · exact ih _
      · rfl
  | app i e k ih =>
    intro ρ
    simp only [IS.thn, exec]
    split
    · rw [R.bind_next]
      congr 1
      funext d
      unfold appD
      split
      · split
        · split
          · exact ih _
          · rfl
        · rfl
      · rfl
    · rfl
  | sto i x e k ih =>
    intro ρ
    simp only [IS.thn, exec]
    split
    · rw [R.bind_next]
      congr 1
      funext d
      split
      · rw [R.bind_next]
        congr 1
        funext j
        unfold stoD
        split
        · split
          · exact ih _
          · rfl
        · rfl
      · rfl
    · rfl
  | aug o i e k ih =>
    intro ρ
    simp only [IS.thn, exec]
    split
    · rw [R.bind_next]
      congr 1
      funext d
      unfold augD
      cases d <;> try rfl
      exact ih _
    · rfl
  | expr e k ih =>
    intro ρ
    simp only [IS.thn, exec, R.bind_next]
    congr 1
    funext d
    exact ih _
  | ret e =>
    intro ρ
    simp only [IS.thn, exec, R.bind_next]
    congr 1
  | ite c x y k _ _ ih =>
    intro ρ
    simp only [IS.thn, exec, R.bind_next, R.next_next]
    congr 1
    funext t
    congr 1
    funext σ
    exact ih _
  | for_ t fz it x k _ ih =>
    intro ρ
    simp only [IS.thn, exec, R.bind_next]
    congr 1
    funext d
    unfold forD
    cases d <;> try rfl
    dsimp only
    rw [R.next_next]
    congr 1
    funext σ
    exact ih _
  | while_ n c x k _ ih =>
    intro ρ
    simp only [IS.thn, exec, R.next_next]
    congr 1
    funext σ
    exact ih _
  | raise c => intro ρ; simp only [IS.thn, exec]; rfl
  | try_ x h k ih =>
    intro ρ
    simp only [IS.thn, exec]
    unfold tryD
    split
    · exact ih _
    · rw [R.bind_next]
      congr 1
      funext o
      cases o with
      | some d => rfl
      | none => exact ih _
    · rfl
  | pas k ih => intro ρ; simp only [IS.thn, exec]; exact ih _
  | fgt fz k ih => intro ρ; simp only [IS.thn, exec]; exact ih _
end

/-! ### between two pieces -/
structure Bu (i : Nat) (bs : List Int) (ρ ρ' : Env) : Prop where
  len : ρ.length = ρ'.length
  n : ρ'[i]? = some (.sh (.list (bs.map PyData.int)))
  at_ : ∀ j s s', j ≠ i → ρ[j]? = some s → ρ'[j]? = some s' → s = .un ∨ s = s'
section
variable {D : Dr} {ρ ρ' : Env}
def Dr.fake (D : Dr) : Sl := .sh (.list (D.as.map PyData.int))
theorem Bu.ab (h : Bu D.i D.bs ρ ρ') : Ab D (ρ.set D.i D.fake) ρ' where
  len := by rw [List.length_set, h.len]
  at_ := fun j s s' e e' => by
    unfold SlL
    by_cases c : j = D.i
    · subst c
      rw [if_pos rfl]
      rw [h.n] at e'
      cases e'
      refine ⟨rfl, ?_⟩
      by_cases l : D.i < ρ.length
      · rw [List.getElem?_set_self l] at e
        cases e
        exact .inr rfl
      · rw [List.getElem?_eq_none (by rw [List.length_set]; omega)] at e
        cases e
    · rw [if_neg c]
      rw [List.getElem?_set_ne (Ne.symm c)] at e
      exact h.at_ j s s' c e e'
theorem Ab.bu (h : Ab D ρ ρ') (hl : D.i < ρ.length) : Bu D.i D.bs ρ ρ' where
  len := h.len
  n := by
    obtain ⟨s', e', z⟩ := h.get (List.getElem?_eq_getElem hl)
    unfold SlL at z
    rw [if_pos rfl] at z
    rw [e', z.1]
  at_ := fun j s s' c e e' => by
    have z := h.at_ j s s' e e'
    unfold SlL at z
    rwa [if_neg c] at z
/-- data are the same -/
def sameA (a b : PyData) : Bool := match a, b with
  | .list xs, .list ys => sameDs xs ys
  | a, b => sameD a b
theorem sameA_ok {a b : PyData} (h : sameA a b = true) : a = b := by
  unfold sameA at h
  split at h
  · rw [sameDs_ok _ _ h]
  · exact sameD_ok _ _ h
def sameL (s t : Sl) : Bool := match s, t with
  | .un, _ => true
  | .sh a, .sh b => sameA a b
  | _, _ => false
/-- what σ tells, τ tells too -/
def envB : Env → Env → Bool
  | [], [] => true
  | s :: r, t :: u => sameL s t && envB r u
  | _, _ => false
theorem envB_ok : ∀ {σ τ : Env}, envB σ τ = true → σ.length = τ.length ∧ ∀ (j : Nat) (s t : Sl), σ[j]? = some s → τ[j]? = some t → s = Sl.un ∨ s = t
  | [], [], _ => ⟨rfl, fun j s t e => by simp at e⟩
  | [], _ :: _, h => by cases h
  | _ :: _, [], h => by cases h
  | s :: r, t :: u, h => by
    simp only [envB, Bool.and_eq_true] at h
    obtain ⟨h1, h2⟩ := envB_ok h.2
    refine ⟨by rw [List.length_cons, List.length_cons, h1], fun j a b e1 e2 => ?_⟩
    cases j with
    | zero =>
      simp only [List.getElem?_cons_zero, Option.some.injEq] at e1 e2
      subst e1 e2
      have h3 := h.1
      unfold sameL at h3
      split at h3
      · exact .inl rfl
      · rw [sameA_ok h3]; exact .inr rfl
      · cases h3
    | succ j =>
      rw [List.getElem?_cons_succ] at e1 e2
      exact h2 j a b e1 e2
theorem Bu.less {i : Nat} {bs : List Int} {σ τ τ' : Env} (h : Bu i bs τ τ') (e : envB σ τ = true) : Bu i bs σ τ' where
  len := (envB_ok e).1.trans h.len
  n := h.n
  at_ := fun j s s' c e1 e2 => by
    have l : j < τ.length := by rw [← (envB_ok e).1]; exact (List.getElem?_eq_some_iff.mp e1).1
    rcases (envB_ok e).2 j s _ e1 (List.getElem?_eq_getElem l) with z | z
    · exact .inl z
    · have q := h.at_ j _ s' c (List.getElem?_eq_getElem l) e2
      rw [← z] at q
      exact q
variable {call : Nat → List PyData → R PyData} {mt : Nat → Nat → Option Bool} {seg rest : IS}
/-- a piece of the law, at some draws of which the rests alone count: what is behind it -/
def segTo (call : Nat → List PyData → R PyData) (mt : Nat → Nat → Option Bool) (seg : IS) (σ : Env) (r : R Fl) : Bool := match r with
  | .ok (.next τ) => envB σ τ
  | _ => false
theorem seg_next (hD : D.Ok) (hs : okS D seg = true) (hb : Bu D.i D.bs ρ ρ') {σ : Env} (hl : D.i < σ.length) (he : segTo call mt seg σ (exK call mt seg (ρ.set D.i D.fake)) = true) :
    ∃ τ', exec call mt seg ρ' = .ok (.next τ') ∧ Bu D.i D.bs σ τ' := by
  rw [← ex_exK] at he
  have q := ex_le hD call mt seg hs _ _ hb.ab
  unfold segTo at he
  split at he
  · rename_i τ e
    rw [e] at q
    obtain ⟨τ', e', a⟩ := q
    exact ⟨τ', e', (a.bu (by rw [← (envB_ok he).1]; exact hl)).less he⟩
  · cases he
def isYes (r : R Fl) : Bool := match r with
  | .ok (.ret (.bool true)) => true
  | _ => false
theorem isYes_ok {r : R Fl} (h : isYes r = true) : r = .ok (.ret (.bool true)) := by
  unfold isYes at h
  split at h
  · rfl
  · cases h
theorem seg_ret (hD : D.Ok) (hs : okS D seg = true) (hb : Bu D.i D.bs ρ ρ') (he : isYes (exK call mt seg (ρ.set D.i D.fake)) = true) : exec call mt seg ρ' = .ok (.ret (.bool true)) := by
  rw [← ex_exK] at he
  have q := ex_le hD call mt seg hs _ _ hb.ab
  rw [isYes_ok he] at q
  exact q

/-! ### a list in pieces -/
theorem all_chunks {α : Type} {f : α → Bool} {l : List α} {k : Nat} (n : Nat) (hk : 0 < k) (hl : l.length ≤ n * k) (h : ∀ j, j < n → ((l.drop (j * k)).take k).all f = true) : l.all f = true := by
  rw [List.all_eq_true]
  intro x hx
  obtain ⟨i, hi, e⟩ := List.mem_iff_getElem.mp hx
  have hj : i / k < n := (Nat.div_lt_iff_lt_mul hk).mpr (by omega)
  refine List.all_eq_true.mp (h (i / k) hj) x ?_
  refine List.mem_iff_getElem?.mpr ⟨i % k, ?_⟩
  rw [List.getElem?_take_of_lt (Nat.mod_lt _ hk), List.getElem?_drop, Nat.mul_comm, Nat.div_add_mod, List.getElem?_eq_getElem hi, e]

/-! ### rests -/
/-- the rests of the places at which ms has a divisor -/
def restsOf : List Int → List Int → List Int
  | m :: ms, b :: bs => (if m = 0 then 0 else b % m) :: restsOf ms bs
  | _, _ => []
def upTo (n : Int) : List Int := (List.range n.toNat).map fun k : Nat => Int.ofNat k
def allRests : List Int → List (List Int)
  | [] => [[]]
  | m :: ms => if m = 0 then (allRests ms).map fun r => 0 :: r else (upTo m).flatMap fun k => (allRests ms).map fun r => k :: r
theorem restsOf_mem : ∀ {ms bs : List Int}, ms.length = bs.length → (∀ m ∈ ms, 0 ≤ m) → restsOf ms bs ∈ allRests ms
  | [], [], _, _ => by simp [restsOf, allRests]
  | [], _ :: _, h, _ => by simp at h
  | _ :: _, [], h, _ => by simp at h
  | m :: ms, b :: bs, h, p => by
    have ih := restsOf_mem (ms := ms) (bs := bs) (by simpa using h) fun m hm => p m (List.mem_cons_of_mem _ hm)
    have p0 := p m List.mem_cons_self
    simp only [restsOf, allRests]
    split
    · exact List.mem_map.mpr ⟨_, ih, rfl⟩
    · rename_i hm
      refine List.mem_flatMap.mpr ⟨b % m, ?_, List.mem_map.mpr ⟨_, ih, rfl⟩⟩
      have h1 := Int.emod_nonneg b hm
      have h2 := Int.emod_lt_of_pos b (show 0 < m by omega)
      exact List.mem_map.mpr ⟨(b % m).toNat, List.mem_range.mpr (by omega), Int.toNat_of_nonneg h1⟩
theorem restsOf_get : ∀ {ms bs : List Int} {k : Nat} {m : Int}, ms[k]? = some m → ms.length = bs.length → ∃ b, bs[k]? = some b ∧ (restsOf ms bs)[k]? = some (if m = 0 then 0 else b % m)
  | [], _, k, m, h, _ => by simp at h
  | _ :: _, [], k, m, h, e => by simp at e
  | m' :: ms, b :: bs, 0, m, h, e => by
    simp only [List.getElem?_cons_zero, Option.some.injEq] at h
    subst h
    exact ⟨b, rfl, rfl⟩
  | m' :: ms, b :: bs, k + 1, m, h, e => by
    rw [List.getElem?_cons_succ] at h
    obtain ⟨c, e1, e2⟩ := restsOf_get (bs := bs) h (by simpa using e)
    exact ⟨c, by rw [List.getElem?_cons_succ]; exact e1, by simp only [restsOf, List.getElem?_cons_succ]; exact e2⟩
/-- the draws at slot i, looked at by the divisors ms alone -/
def drOf (i : Nat) (ms bs : List Int) : Dr := ⟨i, fun k m => match k with
  | .ofNat k => (match ms[k]? with
    | some M => decide (0 < M) && decide (0 < m) && decide (M % m = 0)
    | none => false)
  | _ => false, restsOf ms bs, bs⟩
theorem drOf_ok {i : Nat} {ms bs : List Int} (h : ms.length = bs.length) : (drOf i ms bs).Ok where
  at_ := fun k m e => by
    unfold drOf at e ⊢
    dsimp only at e ⊢
    split at e
    · rename_i k
      split at e
      · rename_i M eM
        simp only [Bool.and_eq_true, decide_eq_true_eq] at e
        obtain ⟨⟨h1, h2⟩, h3⟩ := e
        obtain ⟨b, e1, e2⟩ := restsOf_get eM h
        rw [if_neg (by omega)] at e2
        unfold subD atD
        dsimp only
        rw [List.getElem?_map, List.getElem?_map, e1, e2]
        show (if 0 < m then R.ok (PyData.int (b % M % m)) else .bad) = if 0 < m then R.ok (PyData.int (b % m)) else .bad
        rw [Int.emod_emod_of_dvd b (Int.dvd_of_emod_eq_zero h3)]
      · cases e
    · cases e
end
end DL
namespace DL
open PySem PySem.Spec PyProof.Rows L2
/-! ### the laws' draws: a cell of the script, numbers of it -/
def cellIR : IS :=
  .ite (.cmp .lt (.var 1) (.blt .len (.econs (.var 0) (.enil))))
    (.ret (.sub (.var 0) (.var 1)))
    (.done)
  (.ret (.int 0))
def turnIR : IS :=
    .set (.z []) 5 (.bin .mod (.blt .int (.econs (.bin .add (.bin .add (.bin .mul (.var 0) (.int 48271)) (.bin .mul (.var 4) (.int 69621))) (.int 1)) (.enil))) (.int 2147483647))
    (.ite (.cmp .ge (.var 0) (.bin .pow (.int 10) (.int 18)))
      (.app 2 (.bin .mod (.var 3) (.int 1009))
      (.set (.z []) 3 (.bin .fdiv (.var 3) (.int 1009))
      (.done)))
      (.app 2 (.bin .fdiv (.bin .mod (.blt .int (.econs (.bin .add (.bin .mul (.var 5) (.var 5)) (.bin .mul (.var 5) (.int 40692))) (.enil))) (.int 2147483399)) (.int 7))
      (.done))
    (.done))
def drawsIR : IS :=
  .set (.f) 2 (.lst (.enil))
  (.set (.z []) 3 (.blt .int (.econs (.var 0) (.enil)))
  (.for_ (.one 4) [] (.ir1 (.var 1)) turnIR
  (.ret (.var 2))))
section
variable (call : Nat → List PyData → R PyData) (mt : Nat → Nat → Option Bool)
theorem cell_ok {ns : List Int} {k : Nat} : ∃ c : Int, exec call mt cellIR (envOf 2 [locked (ns.map PyData.int), .int k]) = .ok (.ret (.int c)) := by
  by_cases h : k < ns.length
  · refine ⟨ns[k], ?_⟩
    have e : (ns.map PyData.int)[k]? = some (.int ns[k]) := by rw [List.getElem?_map, List.getElem?_eq_getElem h]; rfl
    simp [cellIR, exec, ev, envOf, locked, Sl.val, R.bind, consD, unT, bltD, cmpD, truth, R.next, subD, atD, e, h, Nat.not_le.mpr h]
  · refine ⟨0, ?_⟩
    simp [cellIR, exec, ev, envOf, locked, Sl.val, R.bind, consD, unT, bltD, cmpD, truth, R.next, subD, h, Nat.not_lt.mp h]
theorem turn_ok {c cnt rest k : Int} {acc : List Int} {s5 : Sl} (hl : acc.length < 1000) (h5 : s5 = .un ∨ ∃ d, s5 = .sh d) : ∃ (x rest' : Int) (d : PyData), exec call mt turnIR [.sh (.int c), .sh (.int cnt), .o1 (acc.map PyData.int), .sh (.int rest), .sh (.int k), s5] =
    .ok (.next [.sh (.int c), .sh (.int cnt), .o1 ((acc ++ [x]).map PyData.int), .sh (.int rest'), .sh (.int k), .sh d]) := by
  have m1 : ∀ i : Int, mulOk i 48271 = true := fun i => by simp [mulOk, show smallI 48271 = true by decide]
  have m2 : ∀ i : Int, mulOk i 69621 = true := fun i => by simp [mulOk, show smallI 69621 = true by decide]
  have m3 : ∀ i : Int, mulOk i 40692 = true := fun i => by simp [mulOk, show smallI 40692 = true by decide]
  have sm : ∀ i : Int, mulOk (i % 2147483647) (i % 2147483647) = true := fun i => by
    have h1 := Int.emod_nonneg i (show (2147483647 : Int) ≠ 0 by decide)
    have h2 := Int.emod_lt_of_pos i (show (0 : Int) < 2147483647 by decide)
    have : smallI (i % 2147483647) = true := by
      unfold smallI
      rw [Nat.blt_eq]
      omega
    simp [mulOk, this]
  have hb : acc.length < big := Nat.lt_trans hl (by decide)
  have l1009 : Nat.log2 1009 < 9000 := by decide
  have l7 : Nat.log2 7 < 9000 := by decide
  by_cases q : 1000000000000000000 ≤ c
  · refine ⟨rest % 1009, rest / 1009, .int ((c * 48271 + k * 69621 + 1) % 2147483647), ?_⟩
    rcases h5 with rfl | ⟨d, rfl⟩ <;>
    simp [turnIR, exec, ev, Sl.val, R.bind, consD, unT, bltD, cmpD, truth, R.next, binD, m1, m2, m3, sm, hideAt, give, appD, pure?, hb, q, l1009, l7]
  · refine ⟨((c * 48271 + k * 69621 + 1) % 2147483647 * ((c * 48271 + k * 69621 + 1) % 2147483647) + (c * 48271 + k * 69621 + 1) % 2147483647 * 40692) % 2147483399 / 7, rest, .int ((c * 48271 + k * 69621 + 1) % 2147483647), ?_⟩
    rcases h5 with rfl | ⟨d, rfl⟩ <;>
    simp [turnIR, exec, ev, Sl.val, R.bind, consD, unT, bltD, cmpD, truth, R.next, binD, m1, m2, m3, sm, hideAt, give, appD, pure?, hb, q, l1009, l7]
theorem turns_ok {c cnt : Int} : ∀ (n : Nat) (lo : Nat) (acc : List Int) (rest : Int) (s4 s5 : Sl), acc.length + n ≤ 1000 → (s5 = .un ∨ ∃ d, s5 = .sh d) → ∃ (bs : List Int) (rest' : Int) (t4 t5 : Sl), bs.length = acc.length + n ∧
    forGo (.one 4) (exec call mt turnIR) ((List.range' lo n).map fun k : Nat => PyData.int k) [.sh (.int c), .sh (.int cnt), .o1 (acc.map PyData.int), .sh (.int rest), s4, s5] =
      .ok (.next [.sh (.int c), .sh (.int cnt), .o1 (bs.map PyData.int), .sh (.int rest'), t4, t5])
  | 0, lo, acc, rest, s4, s5, _, _ => ⟨acc, rest, s4, s5, rfl, rfl⟩
  | n + 1, lo, acc, rest, s4, s5, hl, h5 => by
    obtain ⟨x, rest', d, e⟩ := turn_ok call mt (c := c) (cnt := cnt) (rest := rest) (k := lo) (acc := acc) (s5 := s5) (by omega) h5
    obtain ⟨bs, r2, t4, t5, h1, h2⟩ := turns_ok n (lo + 1) (acc ++ [x]) rest' (.sh (.int lo)) (.sh d) (by rw [List.length_append, List.length_singleton]; omega) (.inr ⟨d, rfl⟩)
    refine ⟨bs, r2, t4, t5, by rw [h1, List.length_append, List.length_singleton]; omega, ?_⟩
    rw [List.range'_succ, List.map_cons]
    unfold forGo
    show (exec call mt turnIR [.sh (.int c), .sh (.int cnt), .o1 (acc.map PyData.int), .sh (.int rest), .sh (.int lo), s5]).bind _ = _
    rw [e]
    exact h2
theorem draws_ok {c : Int} {n : Nat} (hn : n ≤ 1000) : ∃ bs : List Int, bs.length = n ∧ exec call mt drawsIR (envOf 6 [.int c, .int n]) = .ok (.ret (.list (bs.map PyData.int))) := by
  obtain ⟨bs, r, t4, t5, h1, h2⟩ := turns_ok call mt (c := c) (cnt := n) n 0 [] c .un .un (by simpa using hn) (.inl rfl)
  have hb : bnd (n : Int) = true := by
    unfold bnd
    rw [Nat.blt_eq]
    omega
  have hr : rng 0 n = (List.range' 0 n).map fun k : Nat => PyData.int k := by
    unfold rng
    rw [List.range_eq_range']
    apply List.map_congr_left
    intro k _
    simp
  refine ⟨bs, by simpa using h1, ?_⟩
  simp [drawsIR, exec, ev, envOf, Sl.val, R.bind, consD, unT, bltD, hideAt, give, setF, pures, lstD, r1D, hb, forD, R.next, hr]
  rw [List.map_nil] at h2
  rw [h2]
  simp
end
end DL
set_option maxHeartbeats 0
namespace K00
open PySem PySem.Spec PyProof.Rows L2 DL
abbrev fuel : Nat := 100000
def top (i : Nat) : Stmt := PySem.Challenge.pw_chanceworks_k00_fractions.main.body.getD i (.Pass ⟨0, 0, 0, 0⟩)
/-- is_whole -/
def b0 : IS :=
  .ret (.and (.isi (.var 0) "int") (.and (.not (.isi (.var 0) "bool")) (.one (.or (.cmp .is_ (.var 1) (.non)) (.one (.cmp .ge (.var 0) (.var 1)))))))
abbrev n0 : List Str := ["value", "low"]
/-- common -/
def b1 : IS :=
  .while_ fuel (.cmp .gt (.var 1) (.int 0))
    (.par (some []) [0, 1] (.econs (.var 1) (.econs (.bin .mod (.var 0) (.var 1)) (.enil)))
    (.done))
  (.ret (.var 0))
abbrev n1 : List Str := ["first", "second"]
/-- ratio -/
def b2 : IS :=
  .ite (.or (.not (.call 0 (.econs (.var 0) (.enil)))) (.or (.not (.call 0 (.econs (.var 1) (.enil)))) (.one (.cmp .eq (.var 1) (.int 0)))))
    (.raise 1)
    (.done)
  (.ite (.cmp .lt (.var 1) (.int 0))
    (.par (some []) [0, 1] (.econs (.neg (.var 0)) (.econs (.neg (.var 1)) (.enil)))
    (.done))
    (.done)
  (.set (.z []) 2 (.call 1 (.econs (.blt .abs (.econs (.var 0) (.enil))) (.econs (.var 1) (.enil))))
  (.ret (.tup (.econs (.bin .fdiv (.var 0) (.var 2)) (.econs (.bin .fdiv (.var 1) (.var 2)) (.enil)))))))
abbrev n2 : List Str := ["top", "bottom", "part"]
/-- is_ratio -/
def b3 : IS :=
  .ite (.or (.not (.isi (.var 0) "tuple")) (.or (.cmp .ne (.blt .len (.econs (.var 0) (.enil))) (.int 2)) (.or (.not (.call 0 (.econs (.sub (.var 0) (.int 0)) (.enil)))) (.one (.not (.call 0 (.econs (.sub (.var 0) (.int 1)) (.econs (.int 1) (.enil)))))))))
    (.ret (.bl false))
    (.done)
  (.ret (.cmp .eq (.call 1 (.econs (.blt .abs (.econs (.sub (.var 0) (.int 0)) (.enil))) (.econs (.sub (.var 0) (.int 1)) (.enil)))) (.int 1)))
abbrev n3 : List Str := ["value"]
/-- check_ratio -/
def b4 : IS :=
  .ite (.not (.call 3 (.econs (.var 0) (.enil))))
    (.raise 1)
    (.done)
  (.done)
abbrev n4 : List Str := ["value"]
/-- add -/
def b5 : IS :=
  .ret (.call 2 (.econs (.bin .add (.bin .mul (.sub (.var 0) (.int 0)) (.sub (.var 1) (.int 1))) (.bin .mul (.sub (.var 1) (.int 0)) (.sub (.var 0) (.int 1)))) (.econs (.bin .mul (.sub (.var 0) (.int 1)) (.sub (.var 1) (.int 1))) (.enil))))
abbrev n5 : List Str := ["first", "second"]
/-- less -/
def b6 : IS :=
  .ret (.call 2 (.econs (.bin .sub (.bin .mul (.sub (.var 0) (.int 0)) (.sub (.var 1) (.int 1))) (.bin .mul (.sub (.var 1) (.int 0)) (.sub (.var 0) (.int 1)))) (.econs (.bin .mul (.sub (.var 0) (.int 1)) (.sub (.var 1) (.int 1))) (.enil))))
abbrev n6 : List Str := ["first", "second"]
/-- times -/
def b7 : IS :=
  .ret (.call 2 (.econs (.bin .mul (.sub (.var 0) (.int 0)) (.sub (.var 1) (.int 0))) (.econs (.bin .mul (.sub (.var 0) (.int 1)) (.sub (.var 1) (.int 1))) (.enil))))
abbrev n7 : List Str := ["first", "second"]
/-- over -/
def b8 : IS :=
  .ite (.cmp .eq (.sub (.var 1) (.int 0)) (.int 0))
    (.raise 1)
    (.done)
  (.ret (.call 2 (.econs (.bin .mul (.sub (.var 0) (.int 0)) (.sub (.var 1) (.int 1))) (.econs (.bin .mul (.sub (.var 0) (.int 1)) (.sub (.var 1) (.int 0))) (.enil)))))
abbrev n8 : List Str := ["first", "second"]
/-- power -/
def b9 : IS :=
  .expr (.call 4 (.econs (.var 0) (.enil)))
  (.ite (.or (.not (.call 0 (.econs (.var 1) (.econs (.int 0) (.enil))))) (.one (.cmp .gt (.var 1) (.int 1000))))
    (.raise 2)
    (.done)
  (.set (.z []) 2 (.glob 1 (.tuple [.int 1, .int 1]))
  (.for_ (.one 3) [] (.ir1 (.var 1))
    (.set (.z []) 2 (.call 7 (.econs (.var 2) (.econs (.var 0) (.enil))))
    (.done))
  (.ret (.var 2)))))
abbrev n9 : List Str := ["value", "number", "found", "step"]
/-- total -/
def b10 : IS :=
  .set (.z []) 1 (.glob 0 (.tuple [.int 0, .int 1]))
  (.for_ (.one 2) [] (.iseq (.var 0))
    (.set (.z []) 1 (.call 5 (.econs (.var 1) (.econs (.var 2) (.enil))))
    (.done))
  (.ret (.var 1)))
abbrev n10 : List Str := ["values", "found", "value"]
/-- is_under -/
def b11 : IS :=
  .ite (.or (.not (.call 3 (.econs (.var 0) (.enil)))) (.one (.not (.call 3 (.econs (.var 1) (.enil))))))
    (.ret (.bl false))
    (.done)
  (.ret (.cmp .lt (.bin .mul (.sub (.var 0) (.int 0)) (.sub (.var 1) (.int 1))) (.bin .mul (.sub (.var 1) (.int 0)) (.sub (.var 0) (.int 1)))))
abbrev n11 : List Str := ["first", "second"]
/-- least -/
def b12 : IS :=
  .set (.z []) 1 (.sub (.var 0) (.int 0))
  (.for_ (.one 2) [] (.iseq (.var 0))
    (.ite (.call 11 (.econs (.var 2) (.econs (.var 1) (.enil))))
      (.set (.z []) 1 (.var 2)
      (.done))
      (.done)
    (.done))
  (.ret (.var 1)))
abbrev n12 : List Str := ["values", "found", "value"]
/-- most -/
def b13 : IS :=
  .set (.z []) 1 (.sub (.var 0) (.int 0))
  (.for_ (.one 2) [] (.iseq (.var 0))
    (.ite (.call 11 (.econs (.var 1) (.econs (.var 2) (.enil))))
      (.set (.z []) 1 (.var 2)
      (.done))
      (.done)
    (.done))
  (.ret (.var 1)))
abbrev n13 : List Str := ["values", "found", "value"]
/-- size_of -/
def b14 : IS :=
  .expr (.call 4 (.econs (.var 0) (.enil)))
  (.ret (.tup (.econs (.blt .abs (.econs (.sub (.var 0) (.int 0)) (.enil))) (.econs (.sub (.var 0) (.int 1)) (.enil)))))
abbrev n14 : List Str := ["value"]
/-- ratio_text -/
def b15 : IS :=
  .expr (.call 4 (.econs (.var 0) (.enil)))
  (.ret (.ite (.cmp .eq (.sub (.var 0) (.int 1)) (.int 1)) (.blt .str (.econs (.sub (.var 0) (.int 0)) (.enil))) (.bin .add (.bin .add (.blt .str (.econs (.sub (.var 0) (.int 0)) (.enil))) (.str "/")) (.blt .str (.econs (.sub (.var 0) (.int 1)) (.enil))))))
abbrev n15 : List Str := ["value"]
/-- _law_cell -/
def b16 : IS :=
  .ite (.cmp .lt (.var 1) (.blt .len (.econs (.var 0) (.enil))))
    (.ret (.sub (.var 0) (.var 1)))
    (.done)
  (.ret (.int 0))
abbrev n16 : List Str := ["script", "k"]
/-- _law_draws -/
def b17 : IS :=
  .set (.f) 2 (.lst (.enil))
  (.set (.z []) 3 (.blt .int (.econs (.var 0) (.enil)))
  (.for_ (.one 4) [] (.ir1 (.var 1))
    (.set (.z []) 5 (.bin .mod (.blt .int (.econs (.bin .add (.bin .add (.bin .mul (.var 0) (.int 48271)) (.bin .mul (.var 4) (.int 69621))) (.int 1)) (.enil))) (.int 2147483647))
    (.ite (.cmp .ge (.var 0) (.bin .pow (.int 10) (.int 18)))
      (.app 2 (.bin .mod (.var 3) (.int 1009))
      (.set (.z []) 3 (.bin .fdiv (.var 3) (.int 1009))
      (.done)))
      (.app 2 (.bin .fdiv (.bin .mod (.blt .int (.econs (.bin .add (.bin .mul (.var 5) (.var 5)) (.bin .mul (.var 5) (.int 40692))) (.enil))) (.int 2147483399)) (.int 7))
      (.done))
    (.done)))
  (.ret (.var 2))))
abbrev n17 : List Str := ["cell", "count", "result", "rest", "k", "mixed"]
/-- _law_low -/
def b18 : IS :=
  .ite (.cmp .lt (.var 1) (.int 0))
    (.par (some []) [0, 1] (.econs (.bin .sub (.int 0) (.var 0)) (.econs (.bin .sub (.int 0) (.var 1)) (.enil)))
    (.done))
    (.done)
  (.par (some []) [2, 3] (.econs (.blt .abs (.econs (.var 0) (.enil))) (.econs (.var 1) (.enil)))
  (.while_ fuel (.cmp .gt (.var 3) (.int 0))
    (.par (some []) [2, 3] (.econs (.var 3) (.econs (.bin .mod (.var 2) (.var 3)) (.enil)))
    (.done))
  (.ret (.tup (.econs (.bin .fdiv (.var 0) (.var 2)) (.econs (.bin .fdiv (.var 1) (.var 2)) (.enil)))))))
abbrev n18 : List Str := ["top", "bottom", "a", "b"]
/-- _law_add -/
def b19 : IS :=
  .ret (.call 18 (.econs (.bin .add (.bin .mul (.sub (.var 0) (.int 0)) (.sub (.var 1) (.int 1))) (.bin .mul (.sub (.var 1) (.int 0)) (.sub (.var 0) (.int 1)))) (.econs (.bin .mul (.sub (.var 0) (.int 1)) (.sub (.var 1) (.int 1))) (.enil))))
abbrev n19 : List Str := ["one", "two"]
/-- _law_sum -/
def b20 : IS :=
  .set (.z []) 1 (.tup (.econs (.int 0) (.econs (.int 1) (.enil))))
  (.for_ (.one 2) [] (.iseq (.var 0))
    (.set (.z []) 1 (.call 19 (.econs (.var 1) (.econs (.var 2) (.enil))))
    (.done))
  (.ret (.var 1)))
abbrev n20 : List Str := ["row", "found", "one"]
/-- _law_under -/
def b21 : IS :=
  .ret (.cmp .lt (.bin .mul (.sub (.var 0) (.int 0)) (.sub (.var 1) (.int 1))) (.bin .mul (.sub (.var 1) (.int 0)) (.sub (.var 0) (.int 1))))
abbrev n21 : List Str := ["one", "two"]
/-- _law_refuses -/
def b22 : IS :=
  .try_ (.ite (.cmp .eq (.var 0) (.int 0)) (.expr (.call 2 (.econs (.var 1) (.econs (.var 2) (.enil)))) (.done)) (.ite (.cmp .eq (.var 0) (.int 1)) (.expr (.call 9 (.econs (.tup (.econs (.int 1) (.econs (.int 2) (.enil)))) (.econs (.var 1) (.enil)))) (.done)) (.expr (.call 8 (.econs (.var 1) (.econs (.var 2) (.enil)))) (.done)) (.done)) (.done)) (.ret 1 (.cmp .ne (.var 0) (.int 1)) (.ret 2 (.cmp .eq (.var 0) (.int 1)) (.nil)))
  (.ret (.bl false))
abbrev n22 : List Str := ["k", "one", "two"]
/-- law -/
def g0 : IS :=
  .set (.z []) 1 (.call 17 (.econs (.call 16 (.econs (.var 0) (.econs (.int 0) (.enil)))) (.econs (.int 20) (.enil))))
  (.done)
def g1 : IS :=
  .unp (some []) (.many [8, 9, 10, 11]) (.tup (.econs (.bin .sub (.bin .mod (.sub (.var 1) (.int 0)) (.int 90)) (.int 45)) (.econs (.bin .add (.bin .mod (.sub (.var 1) (.int 1)) (.int 40)) (.int 1)) (.econs (.bin .sub (.bin .mod (.sub (.var 1) (.int 2)) (.int 90)) (.int 45)) (.econs (.bin .add (.bin .mod (.sub (.var 1) (.int 3)) (.int 40)) (.int 1)) (.enil))))))
  (.done)
def g2 : IS :=
  .par (some []) [12, 13] (.econs (.call 18 (.econs (.var 8) (.econs (.var 9) (.enil)))) (.econs (.call 18 (.econs (.var 10) (.econs (.var 11) (.enil)))) (.enil)))
  (.done)
def g3 : IS :=
  .ite (.or (.cmp .ne (.call 2 (.econs (.var 8) (.econs (.var 9) (.enil)))) (.var 12)) (.or (.cmp .ne (.call 2 (.econs (.bin .sub (.int 0) (.var 8)) (.econs (.bin .sub (.int 0) (.var 9)) (.enil)))) (.var 12)) (.or (.cmp .ne (.call 2 (.econs (.var 8) (.enil))) (.tup (.econs (.var 8) (.econs (.int 1) (.enil))))) (.or (.not (.call 3 (.econs (.var 12) (.enil)))) (.one (.call 3 (.econs (.tup (.econs (.bin .mul (.int 2) (.var 8)) (.econs (.int 2) (.enil)))) (.enil))))))))
    (.ret (.bl false))
    (.done)
  (.done)
def g4 : IS :=
  .ite (.or (.cmp .ne (.call 5 (.econs (.var 12) (.econs (.var 13) (.enil)))) (.call 18 (.econs (.bin .add (.bin .mul (.var 8) (.var 11)) (.bin .mul (.var 10) (.var 9))) (.econs (.bin .mul (.var 9) (.var 11)) (.enil))))) (.or (.cmp .ne (.call 6 (.econs (.var 12) (.econs (.var 13) (.enil)))) (.call 18 (.econs (.bin .sub (.bin .mul (.var 8) (.var 11)) (.bin .mul (.var 10) (.var 9))) (.econs (.bin .mul (.var 9) (.var 11)) (.enil))))) (.one (.cmp .ne (.call 7 (.econs (.var 12) (.econs (.var 13) (.enil)))) (.call 18 (.econs (.bin .mul (.var 8) (.var 10)) (.econs (.bin .mul (.var 9) (.var 11)) (.enil))))))))
    (.ret (.bl false))
    (.done)
  (.done)
def g5 : IS :=
  .ite (.and (.cmp .ne (.var 10) (.int 0)) (.one (.cmp .ne (.call 8 (.econs (.var 12) (.econs (.var 13) (.enil)))) (.call 18 (.econs (.bin .mul (.var 8) (.var 11)) (.econs (.bin .mul (.var 9) (.var 10)) (.enil)))))))
    (.ret (.bl false))
    (.done)
  (.done)
def g6 : IS :=
  .set (.z []) 2 (.bin .mod (.sub (.var 1) (.int 4)) (.int 12))
  (.done)
def g7 : IS :=
  .unp (some []) (.many [14, 15]) (.tup (.econs (.int 1) (.econs (.int 1) (.enil))))
  (.done)
def g8 : IS :=
  .for_ (.one 3) [] (.ir1 (.var 2))
    (.par (some []) [14, 15] (.econs (.bin .mul (.var 14) (.sub (.var 12) (.int 0))) (.econs (.bin .mul (.var 15) (.sub (.var 12) (.int 1))) (.enil)))
    (.done))
  (.done)
def g9 : IS :=
  .ite (.or (.cmp .ne (.call 9 (.econs (.var 12) (.econs (.var 2) (.enil)))) (.call 18 (.econs (.var 14) (.econs (.var 15) (.enil))))) (.one (.cmp .ne (.call 14 (.econs (.var 12) (.enil))) (.tup (.econs (.blt .abs (.econs (.sub (.var 12) (.int 0)) (.enil))) (.econs (.sub (.var 12) (.int 1)) (.enil)))))))
    (.ret (.bl false))
    (.done)
  (.done)
def g10 : IS :=
  .set (.z []) 4 (.blt .tuple (.econs (.lc [16] [("k", 16)] (.one 16) (.ir1 (.int 4)) (.bl true) (.call 18 (.econs (.bin .sub (.bin .mod (.sub (.var 1) (.bin .add (.int 5) (.var 16))) (.int 60)) (.int 30)) (.econs (.bin .add (.bin .mod (.sub (.var 1) (.bin .add (.int 10) (.var 16))) (.int 9)) (.int 1)) (.enil))))) (.enil)))
  (.done)
def g11 : IS :=
  .set (.z []) 5 (.sub (.lc [17] [("row", 17)] (.one 17) (.iseq (.var 4)) (.cmp .eq (.lc [18] [("other", 18)] (.one 18) (.iseq (.var 4)) (.call 21 (.econs (.var 18) (.econs (.var 17) (.enil)))) (.var 18)) (.lst (.enil))) (.var 17)) (.int 0))
  (.done)
def g12 : IS :=
  .set (.z []) 6 (.sub (.lc [17] [("row", 17)] (.one 17) (.iseq (.var 4)) (.cmp .eq (.lc [18] [("other", 18)] (.one 18) (.iseq (.var 4)) (.call 21 (.econs (.var 17) (.econs (.var 18) (.enil)))) (.var 18)) (.lst (.enil))) (.var 17)) (.int 0))
  (.done)
def g13 : IS :=
  .ite (.or (.cmp .ne (.call 12 (.econs (.var 4) (.enil))) (.var 5)) (.or (.cmp .ne (.call 13 (.econs (.var 4) (.enil))) (.var 6)) (.or (.cmp .ne (.call 10 (.econs (.var 4) (.enil))) (.call 20 (.econs (.var 4) (.enil)))) (.one (.cmp .ne (.call 10 (.econs (.tup (.enil)) (.enil))) (.tup (.econs (.int 0) (.econs (.int 1) (.enil)))))))))
    (.ret (.bl false))
    (.done)
  (.done)
def g14 : IS :=
  .ite (.or (.cmp .ne (.call 11 (.econs (.var 12) (.econs (.var 13) (.enil)))) (.cmp .lt (.bin .mul (.var 8) (.var 11)) (.bin .mul (.var 10) (.var 9)))) (.one (.cmp .ne (.call 15 (.econs (.var 12) (.enil))) (.ite (.cmp .eq (.sub (.var 12) (.int 1)) (.int 1)) (.blt .str (.econs (.sub (.var 12) (.int 0)) (.enil))) (.bin .add (.bin .add (.blt .str (.econs (.sub (.var 12) (.int 0)) (.enil))) (.str "/")) (.blt .str (.econs (.sub (.var 12) (.int 1)) (.enil))))))))
    (.ret (.bl false))
    (.done)
  (.done)
def g15 : IS :=
  .set (.z []) 7 (.tup (.econs (.non) (.econs (.tup (.econs (.int 1) (.econs (.int 0) (.enil)))) (.econs (.tup (.econs (.int 1) (.econs (.neg (.int 2)) (.enil)))) (.econs (.tup (.econs (.int 2) (.econs (.int 4) (.enil)))) (.econs (.lst (.econs (.int 1) (.econs (.int 2) (.enil)))) (.econs (.tup (.econs (.bl true) (.econs (.int 2) (.enil)))) (.econs (.tup (.econs (.int 1) (.enil))) (.econs (.int 3) (.enil))))))))))
  (.done)
def g16 : IS :=
  .ret (.and (.not (.call 3 (.econs (.sub (.var 7) (.bin .mod (.sub (.var 1) (.int 15)) (.int 8))) (.enil)))) (.and (.call 22 (.econs (.int 0) (.econs (.int 1) (.econs (.sub (.tup (.econs (.int 0) (.econs (.non) (.econs (.bl true) (.enil))))) (.bin .mod (.sub (.var 1) (.int 16)) (.int 3))) (.enil))))) (.and (.call 22 (.econs (.int 1) (.econs (.sub (.tup (.econs (.neg (.int 1)) (.econs (.int 1001) (.econs (.non) (.enil))))) (.bin .mod (.sub (.var 1) (.int 17)) (.int 3))) (.econs (.non) (.enil))))) (.one (.call 22 (.econs (.int 2) (.econs (.var 12) (.econs (.tup (.econs (.int 0) (.econs (.int 1) (.enil)))) (.enil)))))))))
def g17 : IS :=
  .done
def b23 : IS := g0.thn (g1.thn (g2.thn (g3.thn (g4.thn (g5.thn (g6.thn (g7.thn (g8.thn (g9.thn (g10.thn (g11.thn (g12.thn (g13.thn (g14.thn (g15.thn (g16.thn (g17)))))))))))))))))
abbrev n23 : List Str := ["script", "n", "number", "step", "rows", "low", "high", "things", "a", "b", "c", "d", "one", "two", "top", "bottom", "k", "row", "other"]
abbrev fns : List FnI := [⟨"is_whole", ["value", "low"], [.none]⟩,
  ⟨"common", ["first", "second"], []⟩,
  ⟨"ratio", ["top", "bottom"], [.int 1]⟩,
  ⟨"is_ratio", ["value"], []⟩,
  ⟨"check_ratio", ["value"], []⟩,
  ⟨"add", ["first", "second"], []⟩,
  ⟨"less", ["first", "second"], []⟩,
  ⟨"times", ["first", "second"], []⟩,
  ⟨"over", ["first", "second"], []⟩,
  ⟨"power", ["value", "number"], []⟩,
  ⟨"total", ["values"], []⟩,
  ⟨"is_under", ["first", "second"], []⟩,
  ⟨"least", ["values"], []⟩,
  ⟨"most", ["values"], []⟩,
  ⟨"size_of", ["value"], []⟩,
  ⟨"ratio_text", ["value"], []⟩,
  ⟨"_law_cell", ["script", "k"], []⟩,
  ⟨"_law_draws", ["cell", "count"], []⟩,
  ⟨"_law_low", ["top", "bottom"], []⟩,
  ⟨"_law_add", ["one", "two"], []⟩,
  ⟨"_law_sum", ["row"], []⟩,
  ⟨"_law_under", ["one", "two"], []⟩,
  ⟨"_law_refuses", ["k", "one", "two"], []⟩,
  ⟨"law", ["script"], []⟩]
abbrev T : Tab := ⟨fns, [("NOUGHT", .tuple [.int 0, .int 1]), ("ONE", .tuple [.int 1, .int 1])], ["ChanceError", "BadRatio", "BadNumber"], ["isinstance", "bool", "int", "abs", "len", "tuple", "range", "str"]⟩
abbrev bs : List (Nat × IS) := [(2, b0), (2, b1), (3, b2), (1, b3), (1, b4), (2, b5), (2, b6), (2, b7), (2, b8), (4, b9), (3, b10), (2, b11), (3, b12), (3, b13), (1, b14), (1, b15), (2, b16), (6, b17), (4, b18), (2, b19), (3, b20), (2, b21), (3, b22), (19, b23)]
def mtab : List (List Bool) := [[true, false, false], [true, true, false], [true, false, true]]
def mt (c d : Nat) : Option Bool := match mtab[c]? with
  | some r => r[d]?
  | none => none
abbrev run : Nat → List PyData → R PyData := runs T bs mt 6
theorem c0 : chkS T n0 b0 (defScope (top 7)) (defBody (top 7)) = true := by kernel_rfl
theorem s0 : FnScope n0 ["value", "low"] (defScope (top 7)) := ⟨rfl, rfl, rfl, by decide +kernel, rfl, by decide +kernel, by decide +kernel⟩
theorem c1 : chkS T n1 b1 (defScope (top 8)) (defBody (top 8)) = true := by kernel_rfl
theorem s1 : FnScope n1 ["first", "second"] (defScope (top 8)) := ⟨rfl, rfl, rfl, by decide +kernel, rfl, by decide +kernel, by decide +kernel⟩
theorem c2 : chkS T n2 b2 (defScope (top 9)) (defBody (top 9)) = true := by kernel_rfl
theorem s2 : FnScope n2 ["top", "bottom"] (defScope (top 9)) := ⟨rfl, rfl, rfl, by decide +kernel, rfl, by decide +kernel, by decide +kernel⟩
theorem c3 : chkS T n3 b3 (defScope (top 10)) (defBody (top 10)) = true := by kernel_rfl
theorem s3 : FnScope n3 ["value"] (defScope (top 10)) := ⟨rfl, rfl, rfl, by decide +kernel, rfl, by decide +kernel, by decide +kernel⟩
theorem c4 : chkS T n4 b4 (defScope (top 11)) (defBody (top 11)) = true := by kernel_rfl
theorem s4 : FnScope n4 ["value"] (defScope (top 11)) := ⟨rfl, rfl, rfl, by decide +kernel, rfl, by decide +kernel, by decide +kernel⟩
theorem c5 : chkS T n5 b5 (defScope (top 12)) (defBody (top 12)) = true := by kernel_rfl
theorem s5 : FnScope n5 ["first", "second"] (defScope (top 12)) := ⟨rfl, rfl, rfl, by decide +kernel, rfl, by decide +kernel, by decide +kernel⟩
theorem c6 : chkS T n6 b6 (defScope (top 13)) (defBody (top 13)) = true := by kernel_rfl
theorem s6 : FnScope n6 ["first", "second"] (defScope (top 13)) := ⟨rfl, rfl, rfl, by decide +kernel, rfl, by decide +kernel, by decide +kernel⟩
theorem c7 : chkS T n7 b7 (defScope (top 14)) (defBody (top 14)) = true := by kernel_rfl
theorem s7 : FnScope n7 ["first", "second"] (defScope (top 14)) := ⟨rfl, rfl, rfl, by decide +kernel, rfl, by decide +kernel, by decide +kernel⟩
theorem c8 : chkS T n8 b8 (defScope (top 15)) (defBody (top 15)) = true := by kernel_rfl
theorem s8 : FnScope n8 ["first", "second"] (defScope (top 15)) := ⟨rfl, rfl, rfl, by decide +kernel, rfl, by decide +kernel, by decide +kernel⟩
theorem c9 : chkS T n9 b9 (defScope (top 16)) (defBody (top 16)) = true := by kernel_rfl
theorem s9 : FnScope n9 ["value", "number"] (defScope (top 16)) := ⟨rfl, rfl, rfl, by decide +kernel, rfl, by decide +kernel, by decide +kernel⟩
theorem c10 : chkS T n10 b10 (defScope (top 17)) (defBody (top 17)) = true := by kernel_rfl
theorem s10 : FnScope n10 ["values"] (defScope (top 17)) := ⟨rfl, rfl, rfl, by decide +kernel, rfl, by decide +kernel, by decide +kernel⟩
theorem c11 : chkS T n11 b11 (defScope (top 18)) (defBody (top 18)) = true := by kernel_rfl
theorem s11 : FnScope n11 ["first", "second"] (defScope (top 18)) := ⟨rfl, rfl, rfl, by decide +kernel, rfl, by decide +kernel, by decide +kernel⟩
theorem c12 : chkS T n12 b12 (defScope (top 19)) (defBody (top 19)) = true := by kernel_rfl
theorem s12 : FnScope n12 ["values"] (defScope (top 19)) := ⟨rfl, rfl, rfl, by decide +kernel, rfl, by decide +kernel, by decide +kernel⟩
theorem c13 : chkS T n13 b13 (defScope (top 20)) (defBody (top 20)) = true := by kernel_rfl
theorem s13 : FnScope n13 ["values"] (defScope (top 20)) := ⟨rfl, rfl, rfl, by decide +kernel, rfl, by decide +kernel, by decide +kernel⟩
theorem c14 : chkS T n14 b14 (defScope (top 21)) (defBody (top 21)) = true := by kernel_rfl
theorem s14 : FnScope n14 ["value"] (defScope (top 21)) := ⟨rfl, rfl, rfl, by decide +kernel, rfl, by decide +kernel, by decide +kernel⟩
theorem c15 : chkS T n15 b15 (defScope (top 22)) (defBody (top 22)) = true := by kernel_rfl
theorem s15 : FnScope n15 ["value"] (defScope (top 22)) := ⟨rfl, rfl, rfl, by decide +kernel, rfl, by decide +kernel, by decide +kernel⟩
theorem c16 : chkS T n16 b16 (defScope (top 24)) (defBody (top 24)) = true := by kernel_rfl
theorem s16 : FnScope n16 ["script", "k"] (defScope (top 24)) := ⟨rfl, rfl, rfl, by decide +kernel, rfl, by decide +kernel, by decide +kernel⟩
theorem c17 : chkS T n17 b17 (defScope (top 25)) (defBody (top 25)) = true := by kernel_rfl
theorem s17 : FnScope n17 ["cell", "count"] (defScope (top 25)) := ⟨rfl, rfl, rfl, by decide +kernel, rfl, by decide +kernel, by decide +kernel⟩
theorem c18 : chkS T n18 b18 (defScope (top 26)) (defBody (top 26)) = true := by kernel_rfl
theorem s18 : FnScope n18 ["top", "bottom"] (defScope (top 26)) := ⟨rfl, rfl, rfl, by decide +kernel, rfl, by decide +kernel, by decide +kernel⟩
theorem c19 : chkS T n19 b19 (defScope (top 27)) (defBody (top 27)) = true := by kernel_rfl
theorem s19 : FnScope n19 ["one", "two"] (defScope (top 27)) := ⟨rfl, rfl, rfl, by decide +kernel, rfl, by decide +kernel, by decide +kernel⟩
theorem c20 : chkS T n20 b20 (defScope (top 28)) (defBody (top 28)) = true := by kernel_rfl
theorem s20 : FnScope n20 ["row"] (defScope (top 28)) := ⟨rfl, rfl, rfl, by decide +kernel, rfl, by decide +kernel, by decide +kernel⟩
theorem c21 : chkS T n21 b21 (defScope (top 29)) (defBody (top 29)) = true := by kernel_rfl
theorem s21 : FnScope n21 ["one", "two"] (defScope (top 29)) := ⟨rfl, rfl, rfl, by decide +kernel, rfl, by decide +kernel, by decide +kernel⟩
theorem c22 : chkS T n22 b22 (defScope (top 30)) (defBody (top 30)) = true := by kernel_rfl
theorem s22 : FnScope n22 ["k", "one", "two"] (defScope (top 30)) := ⟨rfl, rfl, rfl, by decide +kernel, rfl, by decide +kernel, by decide +kernel⟩
theorem c23 : chkS T n23 b23 (defScope (top 31)) (defBody (top 31)) = true := by kernel_rfl
theorem s23 : FnScope n23 ["script"] (defScope (top 31)) := ⟨rfl, rfl, rfl, by decide +kernel, rfl, by decide +kernel, by decide +kernel⟩
abbrev d0 : He.DefD := ⟨("is_whole", none), "is_whole", "is_whole", defArgs (top 7), defBody (top 7), defScope (top 7), [.non], []⟩
abbrev d1 : He.DefD := ⟨("common", none), "common", "common", defArgs (top 8), defBody (top 8), defScope (top 8), [], []⟩
abbrev d2 : He.DefD := ⟨("ratio", none), "ratio", "ratio", defArgs (top 9), defBody (top 9), defScope (top 9), [.int 1], []⟩
abbrev d3 : He.DefD := ⟨("is_ratio", none), "is_ratio", "is_ratio", defArgs (top 10), defBody (top 10), defScope (top 10), [], []⟩
abbrev d4 : He.DefD := ⟨("check_ratio", none), "check_ratio", "check_ratio", defArgs (top 11), defBody (top 11), defScope (top 11), [], []⟩
abbrev d5 : He.DefD := ⟨("add", none), "add", "add", defArgs (top 12), defBody (top 12), defScope (top 12), [], []⟩
abbrev d6 : He.DefD := ⟨("less", none), "less", "less", defArgs (top 13), defBody (top 13), defScope (top 13), [], []⟩
abbrev d7 : He.DefD := ⟨("times", none), "times", "times", defArgs (top 14), defBody (top 14), defScope (top 14), [], []⟩
abbrev d8 : He.DefD := ⟨("over", none), "over", "over", defArgs (top 15), defBody (top 15), defScope (top 15), [], []⟩
abbrev d9 : He.DefD := ⟨("power", none), "power", "power", defArgs (top 16), defBody (top 16), defScope (top 16), [], []⟩
abbrev d10 : He.DefD := ⟨("total", none), "total", "total", defArgs (top 17), defBody (top 17), defScope (top 17), [], []⟩
abbrev d11 : He.DefD := ⟨("is_under", none), "is_under", "is_under", defArgs (top 18), defBody (top 18), defScope (top 18), [], []⟩
abbrev d12 : He.DefD := ⟨("least", none), "least", "least", defArgs (top 19), defBody (top 19), defScope (top 19), [], []⟩
abbrev d13 : He.DefD := ⟨("most", none), "most", "most", defArgs (top 20), defBody (top 20), defScope (top 20), [], []⟩
abbrev d14 : He.DefD := ⟨("size_of", none), "size_of", "size_of", defArgs (top 21), defBody (top 21), defScope (top 21), [], []⟩
abbrev d15 : He.DefD := ⟨("ratio_text", none), "ratio_text", "ratio_text", defArgs (top 22), defBody (top 22), defScope (top 22), [], []⟩
abbrev d16 : He.DefD := ⟨("_law_cell", none), "_law_cell", "_law_cell", defArgs (top 24), defBody (top 24), defScope (top 24), [], []⟩
abbrev d17 : He.DefD := ⟨("_law_draws", none), "_law_draws", "_law_draws", defArgs (top 25), defBody (top 25), defScope (top 25), [], []⟩
abbrev d18 : He.DefD := ⟨("_law_low", none), "_law_low", "_law_low", defArgs (top 26), defBody (top 26), defScope (top 26), [], []⟩
abbrev d19 : He.DefD := ⟨("_law_add", none), "_law_add", "_law_add", defArgs (top 27), defBody (top 27), defScope (top 27), [], []⟩
abbrev d20 : He.DefD := ⟨("_law_sum", none), "_law_sum", "_law_sum", defArgs (top 28), defBody (top 28), defScope (top 28), [], []⟩
abbrev d21 : He.DefD := ⟨("_law_under", none), "_law_under", "_law_under", defArgs (top 29), defBody (top 29), defScope (top 29), [], []⟩
abbrev d22 : He.DefD := ⟨("_law_refuses", none), "_law_refuses", "_law_refuses", defArgs (top 30), defBody (top 30), defScope (top 30), [], []⟩
abbrev d23 : He.DefD := ⟨("law", none), "law", "law", defArgs (top 31), defBody (top 31), defScope (top 31), [], []⟩
def fn : List He.DefD := [d0, d1, d2, d3, d4, d5, d6, d7, d8, d9, d10, d11, d12, d13, d14, d15, d16, d17, d18, d19, d20, d21, d22, d23]
def fa : List He.Fa := [.glo "is_whole",
  .glo "common",
  .glo "ratio",
  .glo "is_ratio",
  .glo "check_ratio",
  .glo "add",
  .glo "less",
  .glo "times",
  .glo "over",
  .glo "power",
  .glo "total",
  .glo "is_under",
  .glo "least",
  .glo "most",
  .glo "size_of",
  .glo "ratio_text",
  .glo "_law_cell",
  .glo "_law_draws",
  .glo "_law_low",
  .glo "_law_add",
  .glo "_law_sum",
  .glo "_law_under",
  .glo "_law_refuses",
  .glo "law",
  .free "isinstance",
  .free "bool",
  .free "int",
  .free "abs",
  .free "len",
  .free "tuple",
  .free "range",
  .free "str",
  .glo "ChanceError",
  .glo "BadRatio",
  .glo "BadNumber",
  .exc "ChanceError",
  .exc "BadRatio",
  .exc "BadNumber",
  .exm "ChanceError" "ChanceError" true,
  .exm "ChanceError" "BadRatio" false,
  .exm "ChanceError" "BadNumber" false,
  .exm "BadRatio" "ChanceError" true,
  .exm "BadRatio" "BadRatio" true,
  .exm "BadRatio" "BadNumber" false,
  .exm "BadNumber" "ChanceError" true,
  .exm "BadNumber" "BadRatio" false,
  .exm "BadNumber" "BadNumber" true,
  .glo "NOUGHT",
  .glo "ONE"]
abbrev Rw : PySem.W.OpenRow := PySem.W.OpenLaw.row PySem.Challenge.rw_chanceworks_k00_fractions
def ex (K : PySem.W.Frag) : Bool := He.tupB K "NOUGHT" [.int 0, .int 1] && He.tupB K "ONE" [.int 1, .int 1]
abbrev hk : PySem.W.Hook := He.hookX 4 fa fn [] [] ex
def ob (s : PySem.W.SharedT) : He.AlX := He.obsX 4 fa fn [] [] ex (HandSHeadRun.getT s)
theorem ob_eq (s : PySem.W.SharedT) : ob s = hk.obs s.abs := He.obsX_eq (HandSHeadRun.getT_eq s)
def loose : List Str := ["__name__", "ChanceError", "BadRatio", "BadNumber", "NOUGHT", "ONE", "is_whole", "common", "ratio", "is_ratio", "check_ratio", "add", "less", "times", "over", "power", "total", "is_under", "least", "most", "size_of", "ratio_text", "_law_cell", "_law_draws", "_law_low", "_law_add", "_law_sum", "_law_under", "_law_refuses"]
theorem runE (w : World) : HandSHeadRun.RunEq Rw (PySem.W.view Rw.prog [31]) hk ob 6000 loose w := by
  intro os
  kernel_rfl
section
variable {K : PySem.W.Frag} {h : Heap} {mg : Str → Option Value}
theorem k0 (X : K.In h) (G : h.Ns mainGlobals mg) (c : He.SaysD fa fn K) : ∃ g fd, FnFact K mg T bs 0 ⟨"is_whole", ["value", "low"], [.none]⟩ g fd := by
  obtain ⟨fd, F⟩ := c.def_ 0 (d := d0) rfl
  exact ⟨_, fd, He.glo_ok X G (c.fact 0 (f := .glo "is_whole") rfl), bind_1 rfl rfl (F.binds1 1 0 (fun z => by cases z) rfl fun T kV doc pm an cdv ct us its l1 l2 => match us, its, l1, l2 with | [_], [_], _, _ => ⟨_, rfl, rfl⟩) (F.binds1 2 1 (fun z => by cases z) rfl fun T kV doc pm an cdv ct us its l1 l2 => match us, its, l1, l2 with | [_, _], [_], _, _ => ⟨_, rfl, rfl⟩) (fun S => by simp [RpA, Rp, He.DefD.dvs, d0, He.Dv.v]), n0, b0, _, _, _, _, _, _, F, s0, rfl, c0⟩
theorem k1 (X : K.In h) (G : h.Ns mainGlobals mg) (c : He.SaysD fa fn K) : ∃ g fd, FnFact K mg T bs 1 ⟨"common", ["first", "second"], []⟩ g fd := by
  obtain ⟨fd, F⟩ := c.def_ 1 (d := d1) rfl
  exact ⟨_, fd, He.glo_ok X G (c.fact 1 (f := .glo "common") rfl), bind_plain rfl (F.bindsN fun _ _ _ _ _ _ us hl => match us, hl with | [_, _], _ => rfl), n1, b1, _, _, _, _, _, _, F, s1, rfl, c1⟩
theorem k2 (X : K.In h) (G : h.Ns mainGlobals mg) (c : He.SaysD fa fn K) : ∃ g fd, FnFact K mg T bs 2 ⟨"ratio", ["top", "bottom"], [.int 1]⟩ g fd := by
  obtain ⟨fd, F⟩ := c.def_ 2 (d := d2) rfl
  exact ⟨_, fd, He.glo_ok X G (c.fact 2 (f := .glo "ratio") rfl), bind_1 rfl rfl (F.binds1 1 0 (fun z => by cases z) rfl fun T kV doc pm an cdv ct us its l1 l2 => match us, its, l1, l2 with | [_], [_], _, _ => ⟨_, rfl, rfl⟩) (F.binds1 2 1 (fun z => by cases z) rfl fun T kV doc pm an cdv ct us its l1 l2 => match us, its, l1, l2 with | [_, _], [_], _, _ => ⟨_, rfl, rfl⟩) (fun S => by simp [RpA, Rp, He.DefD.dvs, d2, He.Dv.v]), n2, b2, _, _, _, _, _, _, F, s2, rfl, c2⟩
theorem k3 (X : K.In h) (G : h.Ns mainGlobals mg) (c : He.SaysD fa fn K) : ∃ g fd, FnFact K mg T bs 3 ⟨"is_ratio", ["value"], []⟩ g fd := by
  obtain ⟨fd, F⟩ := c.def_ 3 (d := d3) rfl
  exact ⟨_, fd, He.glo_ok X G (c.fact 3 (f := .glo "is_ratio") rfl), bind_plain rfl (F.bindsN fun _ _ _ _ _ _ us hl => match us, hl with | [_], _ => rfl), n3, b3, _, _, _, _, _, _, F, s3, rfl, c3⟩
theorem k4 (X : K.In h) (G : h.Ns mainGlobals mg) (c : He.SaysD fa fn K) : ∃ g fd, FnFact K mg T bs 4 ⟨"check_ratio", ["value"], []⟩ g fd := by
  obtain ⟨fd, F⟩ := c.def_ 4 (d := d4) rfl
  exact ⟨_, fd, He.glo_ok X G (c.fact 4 (f := .glo "check_ratio") rfl), bind_plain rfl (F.bindsN fun _ _ _ _ _ _ us hl => match us, hl with | [_], _ => rfl), n4, b4, _, _, _, _, _, _, F, s4, rfl, c4⟩
theorem k5 (X : K.In h) (G : h.Ns mainGlobals mg) (c : He.SaysD fa fn K) : ∃ g fd, FnFact K mg T bs 5 ⟨"add", ["first", "second"], []⟩ g fd := by
  obtain ⟨fd, F⟩ := c.def_ 5 (d := d5) rfl
  exact ⟨_, fd, He.glo_ok X G (c.fact 5 (f := .glo "add") rfl), bind_plain rfl (F.bindsN fun _ _ _ _ _ _ us hl => match us, hl with | [_, _], _ => rfl), n5, b5, _, _, _, _, _, _, F, s5, rfl, c5⟩
theorem k6 (X : K.In h) (G : h.Ns mainGlobals mg) (c : He.SaysD fa fn K) : ∃ g fd, FnFact K mg T bs 6 ⟨"less", ["first", "second"], []⟩ g fd := by
  obtain ⟨fd, F⟩ := c.def_ 6 (d := d6) rfl
  exact ⟨_, fd, He.glo_ok X G (c.fact 6 (f := .glo "less") rfl), bind_plain rfl (F.bindsN fun _ _ _ _ _ _ us hl => match us, hl with | [_, _], _ => rfl), n6, b6, _, _, _, _, _, _, F, s6, rfl, c6⟩
theorem k7 (X : K.In h) (G : h.Ns mainGlobals mg) (c : He.SaysD fa fn K) : ∃ g fd, FnFact K mg T bs 7 ⟨"times", ["first", "second"], []⟩ g fd := by
  obtain ⟨fd, F⟩ := c.def_ 7 (d := d7) rfl
  exact ⟨_, fd, He.glo_ok X G (c.fact 7 (f := .glo "times") rfl), bind_plain rfl (F.bindsN fun _ _ _ _ _ _ us hl => match us, hl with | [_, _], _ => rfl), n7, b7, _, _, _, _, _, _, F, s7, rfl, c7⟩
theorem k8 (X : K.In h) (G : h.Ns mainGlobals mg) (c : He.SaysD fa fn K) : ∃ g fd, FnFact K mg T bs 8 ⟨"over", ["first", "second"], []⟩ g fd := by
  obtain ⟨fd, F⟩ := c.def_ 8 (d := d8) rfl
  exact ⟨_, fd, He.glo_ok X G (c.fact 8 (f := .glo "over") rfl), bind_plain rfl (F.bindsN fun _ _ _ _ _ _ us hl => match us, hl with | [_, _], _ => rfl), n8, b8, _, _, _, _, _, _, F, s8, rfl, c8⟩
theorem k9 (X : K.In h) (G : h.Ns mainGlobals mg) (c : He.SaysD fa fn K) : ∃ g fd, FnFact K mg T bs 9 ⟨"power", ["value", "number"], []⟩ g fd := by
  obtain ⟨fd, F⟩ := c.def_ 9 (d := d9) rfl
  exact ⟨_, fd, He.glo_ok X G (c.fact 9 (f := .glo "power") rfl), bind_plain rfl (F.bindsN fun _ _ _ _ _ _ us hl => match us, hl with | [_, _], _ => rfl), n9, b9, _, _, _, _, _, _, F, s9, rfl, c9⟩
theorem k10 (X : K.In h) (G : h.Ns mainGlobals mg) (c : He.SaysD fa fn K) : ∃ g fd, FnFact K mg T bs 10 ⟨"total", ["values"], []⟩ g fd := by
  obtain ⟨fd, F⟩ := c.def_ 10 (d := d10) rfl
  exact ⟨_, fd, He.glo_ok X G (c.fact 10 (f := .glo "total") rfl), bind_plain rfl (F.bindsN fun _ _ _ _ _ _ us hl => match us, hl with | [_], _ => rfl), n10, b10, _, _, _, _, _, _, F, s10, rfl, c10⟩
theorem k11 (X : K.In h) (G : h.Ns mainGlobals mg) (c : He.SaysD fa fn K) : ∃ g fd, FnFact K mg T bs 11 ⟨"is_under", ["first", "second"], []⟩ g fd := by
  obtain ⟨fd, F⟩ := c.def_ 11 (d := d11) rfl
  exact ⟨_, fd, He.glo_ok X G (c.fact 11 (f := .glo "is_under") rfl), bind_plain rfl (F.bindsN fun _ _ _ _ _ _ us hl => match us, hl with | [_, _], _ => rfl), n11, b11, _, _, _, _, _, _, F, s11, rfl, c11⟩
theorem k12 (X : K.In h) (G : h.Ns mainGlobals mg) (c : He.SaysD fa fn K) : ∃ g fd, FnFact K mg T bs 12 ⟨"least", ["values"], []⟩ g fd := by
  obtain ⟨fd, F⟩ := c.def_ 12 (d := d12) rfl
  exact ⟨_, fd, He.glo_ok X G (c.fact 12 (f := .glo "least") rfl), bind_plain rfl (F.bindsN fun _ _ _ _ _ _ us hl => match us, hl with | [_], _ => rfl), n12, b12, _, _, _, _, _, _, F, s12, rfl, c12⟩
theorem k13 (X : K.In h) (G : h.Ns mainGlobals mg) (c : He.SaysD fa fn K) : ∃ g fd, FnFact K mg T bs 13 ⟨"most", ["values"], []⟩ g fd := by
  obtain ⟨fd, F⟩ := c.def_ 13 (d := d13) rfl
  exact ⟨_, fd, He.glo_ok X G (c.fact 13 (f := .glo "most") rfl), bind_plain rfl (F.bindsN fun _ _ _ _ _ _ us hl => match us, hl with | [_], _ => rfl), n13, b13, _, _, _, _, _, _, F, s13, rfl, c13⟩
theorem k14 (X : K.In h) (G : h.Ns mainGlobals mg) (c : He.SaysD fa fn K) : ∃ g fd, FnFact K mg T bs 14 ⟨"size_of", ["value"], []⟩ g fd := by
  obtain ⟨fd, F⟩ := c.def_ 14 (d := d14) rfl
  exact ⟨_, fd, He.glo_ok X G (c.fact 14 (f := .glo "size_of") rfl), bind_plain rfl (F.bindsN fun _ _ _ _ _ _ us hl => match us, hl with | [_], _ => rfl), n14, b14, _, _, _, _, _, _, F, s14, rfl, c14⟩
theorem k15 (X : K.In h) (G : h.Ns mainGlobals mg) (c : He.SaysD fa fn K) : ∃ g fd, FnFact K mg T bs 15 ⟨"ratio_text", ["value"], []⟩ g fd := by
  obtain ⟨fd, F⟩ := c.def_ 15 (d := d15) rfl
  exact ⟨_, fd, He.glo_ok X G (c.fact 15 (f := .glo "ratio_text") rfl), bind_plain rfl (F.bindsN fun _ _ _ _ _ _ us hl => match us, hl with | [_], _ => rfl), n15, b15, _, _, _, _, _, _, F, s15, rfl, c15⟩
theorem k16 (X : K.In h) (G : h.Ns mainGlobals mg) (c : He.SaysD fa fn K) : ∃ g fd, FnFact K mg T bs 16 ⟨"_law_cell", ["script", "k"], []⟩ g fd := by
  obtain ⟨fd, F⟩ := c.def_ 16 (d := d16) rfl
  exact ⟨_, fd, He.glo_ok X G (c.fact 16 (f := .glo "_law_cell") rfl), bind_plain rfl (F.bindsN fun _ _ _ _ _ _ us hl => match us, hl with | [_, _], _ => rfl), n16, b16, _, _, _, _, _, _, F, s16, rfl, c16⟩
theorem k17 (X : K.In h) (G : h.Ns mainGlobals mg) (c : He.SaysD fa fn K) : ∃ g fd, FnFact K mg T bs 17 ⟨"_law_draws", ["cell", "count"], []⟩ g fd := by
  obtain ⟨fd, F⟩ := c.def_ 17 (d := d17) rfl
  exact ⟨_, fd, He.glo_ok X G (c.fact 17 (f := .glo "_law_draws") rfl), bind_plain rfl (F.bindsN fun _ _ _ _ _ _ us hl => match us, hl with | [_, _], _ => rfl), n17, b17, _, _, _, _, _, _, F, s17, rfl, c17⟩
theorem k18 (X : K.In h) (G : h.Ns mainGlobals mg) (c : He.SaysD fa fn K) : ∃ g fd, FnFact K mg T bs 18 ⟨"_law_low", ["top", "bottom"], []⟩ g fd := by
  obtain ⟨fd, F⟩ := c.def_ 18 (d := d18) rfl
  exact ⟨_, fd, He.glo_ok X G (c.fact 18 (f := .glo "_law_low") rfl), bind_plain rfl (F.bindsN fun _ _ _ _ _ _ us hl => match us, hl with | [_, _], _ => rfl), n18, b18, _, _, _, _, _, _, F, s18, rfl, c18⟩
theorem k19 (X : K.In h) (G : h.Ns mainGlobals mg) (c : He.SaysD fa fn K) : ∃ g fd, FnFact K mg T bs 19 ⟨"_law_add", ["one", "two"], []⟩ g fd := by
  obtain ⟨fd, F⟩ := c.def_ 19 (d := d19) rfl
  exact ⟨_, fd, He.glo_ok X G (c.fact 19 (f := .glo "_law_add") rfl), bind_plain rfl (F.bindsN fun _ _ _ _ _ _ us hl => match us, hl with | [_, _], _ => rfl), n19, b19, _, _, _, _, _, _, F, s19, rfl, c19⟩
theorem k20 (X : K.In h) (G : h.Ns mainGlobals mg) (c : He.SaysD fa fn K) : ∃ g fd, FnFact K mg T bs 20 ⟨"_law_sum", ["row"], []⟩ g fd := by
  obtain ⟨fd, F⟩ := c.def_ 20 (d := d20) rfl
  exact ⟨_, fd, He.glo_ok X G (c.fact 20 (f := .glo "_law_sum") rfl), bind_plain rfl (F.bindsN fun _ _ _ _ _ _ us hl => match us, hl with | [_], _ => rfl), n20, b20, _, _, _, _, _, _, F, s20, rfl, c20⟩
theorem k21 (X : K.In h) (G : h.Ns mainGlobals mg) (c : He.SaysD fa fn K) : ∃ g fd, FnFact K mg T bs 21 ⟨"_law_under", ["one", "two"], []⟩ g fd := by
  obtain ⟨fd, F⟩ := c.def_ 21 (d := d21) rfl
  exact ⟨_, fd, He.glo_ok X G (c.fact 21 (f := .glo "_law_under") rfl), bind_plain rfl (F.bindsN fun _ _ _ _ _ _ us hl => match us, hl with | [_, _], _ => rfl), n21, b21, _, _, _, _, _, _, F, s21, rfl, c21⟩
theorem k22 (X : K.In h) (G : h.Ns mainGlobals mg) (c : He.SaysD fa fn K) : ∃ g fd, FnFact K mg T bs 22 ⟨"_law_refuses", ["k", "one", "two"], []⟩ g fd := by
  obtain ⟨fd, F⟩ := c.def_ 22 (d := d22) rfl
  exact ⟨_, fd, He.glo_ok X G (c.fact 22 (f := .glo "_law_refuses") rfl), bind_plain rfl (F.bindsN fun _ _ _ _ _ _ us hl => match us, hl with | [_, _, _], _ => rfl), n22, b22, _, _, _, _, _, _, F, s22, rfl, c22⟩
theorem k23 (X : K.In h) (G : h.Ns mainGlobals mg) (c : He.SaysD fa fn K) : ∃ g fd, FnFact K mg T bs 23 ⟨"law", ["script"], []⟩ g fd := by
  obtain ⟨fd, F⟩ := c.def_ 23 (d := d23) rfl
  exact ⟨_, fd, He.glo_ok X G (c.fact 23 (f := .glo "law") rfl), bind_plain rfl (F.bindsN fun _ _ _ _ _ _ us hl => match us, hl with | [_], _ => rfl), n23, b23, _, _, _, _, _, _, F, s23, rfl, c23⟩
theorem tab {P : Program} {w : World} (X : K.In h) (G : h.Ns mainGlobals mg) (c : He.SaysD fa fn K) (cx : ex K = true) : TabFact P w K mg T bs (fun i => .ref (He.ga K ((T.exs[i]?).getD ""))) mt where
  fns := fun j f e => by
    match j, e with
    | 0, e => cases e; exact k0 X G c
    | 1, e => cases e; exact k1 X G c
    | 2, e => cases e; exact k2 X G c
    | 3, e => cases e; exact k3 X G c
    | 4, e => cases e; exact k4 X G c
    | 5, e => cases e; exact k5 X G c
    | 6, e => cases e; exact k6 X G c
    | 7, e => cases e; exact k7 X G c
    | 8, e => cases e; exact k8 X G c
    | 9, e => cases e; exact k9 X G c
    | 10, e => cases e; exact k10 X G c
    | 11, e => cases e; exact k11 X G c
    | 12, e => cases e; exact k12 X G c
    | 13, e => cases e; exact k13 X G c
    | 14, e => cases e; exact k14 X G c
    | 15, e => cases e; exact k15 X G c
    | 16, e => cases e; exact k16 X G c
    | 17, e => cases e; exact k17 X G c
    | 18, e => cases e; exact k18 X G c
    | 19, e => cases e; exact k19 X G c
    | 20, e => cases e; exact k20 X G c
    | 21, e => cases e; exact k21 X G c
    | 22, e => cases e; exact k22 X G c
    | 23, e => cases e; exact k23 X G c
    | n + 24, e => cases e
  gls := fun j x d e => by
    have cx := cx
    simp only [ex, Bool.and_eq_true] at cx
    match j, e with
    | 0, e => cases e; exact ⟨.ref (He.ga K "NOUGHT"), .ref (He.ga K "NOUGHT"), He.glo_ok X G (c.fact 47 (f := .glo "NOUGHT") rfl), rfl, fun S => gl_tup (He.tupB_ok cx.1 S) (by simp [RpA, Rp, He.Dv.v])⟩
    | 1, e => cases e; exact ⟨.ref (He.ga K "ONE"), .ref (He.ga K "ONE"), He.glo_ok X G (c.fact 48 (f := .glo "ONE") rfl), rfl, fun S => gl_tup (He.tupB_ok cx.2 S) (by simp [RpA, Rp, He.Dv.v])⟩
    | n + 2, e => cases e
  bls := fun x hx => by
    simp only [List.mem_cons, List.not_mem_nil, or_false] at hx
    rcases hx with rfl | rfl | rfl | rfl | rfl | rfl | rfl | rfl
    · exact He.free_ok X G (c.fact 24 (f := .free "isinstance") rfl)
    · exact He.free_ok X G (c.fact 25 (f := .free "bool") rfl)
    · exact He.free_ok X G (c.fact 26 (f := .free "int") rfl)
    · exact He.free_ok X G (c.fact 27 (f := .free "abs") rfl)
    · exact He.free_ok X G (c.fact 28 (f := .free "len") rfl)
    · exact He.free_ok X G (c.fact 29 (f := .free "tuple") rfl)
    · exact He.free_ok X G (c.fact 30 (f := .free "range") rfl)
    · exact He.free_ok X G (c.fact 31 (f := .free "str") rfl)
  exs := fun i y e => by
    match i, e with
    | 0, e => cases e; exact ⟨_, rfl, He.glo_ok X G (c.fact 32 (f := .glo "ChanceError") rfl), He.exc_ok (c.fact 35 (f := .exc "ChanceError") rfl)⟩
    | 1, e => cases e; exact ⟨_, rfl, He.glo_ok X G (c.fact 33 (f := .glo "BadRatio") rfl), He.exc_ok (c.fact 36 (f := .exc "BadRatio") rfl)⟩
    | 2, e => cases e; exact ⟨_, rfl, He.glo_ok X G (c.fact 34 (f := .glo "BadNumber") rfl), He.exc_ok (c.fact 37 (f := .exc "BadNumber") rfl)⟩
    | n + 3, e => cases e
  exm := fun i i2 b e => by
    match i, i2, e with
    | 0, 0, e => cases e; exact He.exm_ok (c.fact 38 (f := .exm "ChanceError" "ChanceError" true) rfl)
    | 0, 1, e => cases e; exact He.exm_ok (c.fact 39 (f := .exm "ChanceError" "BadRatio" false) rfl)
    | 0, 2, e => cases e; exact He.exm_ok (c.fact 40 (f := .exm "ChanceError" "BadNumber" false) rfl)
    | 1, 0, e => cases e; exact He.exm_ok (c.fact 41 (f := .exm "BadRatio" "ChanceError" true) rfl)
    | 1, 1, e => cases e; exact He.exm_ok (c.fact 42 (f := .exm "BadRatio" "BadRatio" true) rfl)
    | 1, 2, e => cases e; exact He.exm_ok (c.fact 43 (f := .exm "BadRatio" "BadNumber" false) rfl)
    | 2, 0, e => cases e; exact He.exm_ok (c.fact 44 (f := .exm "BadNumber" "ChanceError" true) rfl)
    | 2, 1, e => cases e; exact He.exm_ok (c.fact 45 (f := .exm "BadNumber" "BadRatio" false) rfl)
    | 2, 2, e => cases e; exact He.exm_ok (c.fact 46 (f := .exm "BadNumber" "BadNumber" true) rfl)
    | 0, n + 3, e => cases e
    | 1, n + 3, e => cases e
    | 2, n + 3, e => cases e
    | n + 3, _, e => cases e
end
abbrev depth : Nat := 6
abbrev lawAt : Nat := 23
end K00
namespace DL
open PySem PySem.Spec PyProof.Rows L2
/-! ### numbers -/
theorem mod_half {a b : Nat} (h : 0 < a % b) (hb : 0 < b) : 2 * (b % (a % b)) < b := by
  have h1 : a % b < b := Nat.mod_lt _ hb
  have h2 : b % (a % b) < a % b := Nat.mod_lt _ h
  have h3 : b % (a % b) ≤ b - a % b := by
    rw [Nat.mod_eq_sub_mod (by omega)]
    exact Nat.mod_le _ _
  omega
/-- Euclid's loop -/
theorem euclid {fc : Env → R PyData} {fb : Env → R Fl} {mk : Nat → Nat → Env} (h1 : ∀ a b, (fc (mk a b)).bind truth = .ok (decide (0 < b))) (h2 : ∀ a b, 0 < b → fb (mk a b) = .ok (.next (mk b (a % b)))) :
    ∀ (n fuel a b : Nat), b < 2 ^ n → 2 * n + 1 ≤ fuel → whileGo fc fb fuel (mk a b) = .ok (.next (mk (Nat.gcd a b) 0)) := by
  have stop : ∀ fuel a, 1 ≤ fuel → whileGo fc fb fuel (mk a 0) = .ok (.next (mk a 0)) := fun fuel a hf => by
    obtain ⟨m, rfl⟩ : ∃ m, fuel = m + 1 := ⟨fuel - 1, by omega⟩
    unfold whileGo
    rw [h1]
    rfl
  have step : ∀ m a b, 0 < b → whileGo fc fb (m + 1) (mk a b) = whileGo fc fb m (mk b (a % b)) := fun m a b hb => by
    show ((fc (mk a b)).bind truth).bind _ = _
    rw [h1, decide_eq_true hb]
    show (fb (mk a b)).bind _ = _
    rw [h2 a b hb]
    rfl
  intro n
  induction n with
  | zero =>
    intro fuel a b hb hf
    have e : b = 0 := by simpa using hb
    subst e
    rw [Nat.gcd_zero_right]
    exact stop _ _ (by omega)
  | succ n ih =>
    intro fuel a b hb hf
    rcases Nat.eq_zero_or_pos b with e | hb0
    · subst e
      rw [Nat.gcd_zero_right]
      exact stop _ _ (by omega)
    · obtain ⟨m, rfl⟩ : ∃ m, fuel = m + 1 + 1 := ⟨fuel - 2, by omega⟩
      rw [step _ _ _ hb0]
      have g1 : Nat.gcd a b = Nat.gcd b (a % b) := by rw [Nat.gcd_comm a b, Nat.gcd_rec b a, Nat.gcd_comm]
      rcases Nat.eq_zero_or_pos (a % b) with e | hr
      · rw [g1, e, Nat.gcd_zero_right]
        exact stop _ _ (by omega)
      · rw [step _ _ _ hr]
        have g2 : Nat.gcd b (a % b) = Nat.gcd (a % b) (b % (a % b)) := by rw [Nat.gcd_comm b, Nat.gcd_rec (a % b) b, Nat.gcd_comm]
        rw [g1, g2]
        refine ih m (a % b) (b % (a % b)) ?_ (by omega)
        have := mod_half hr hb0
        rw [Nat.pow_succ] at hb
        omega
/-- lowest terms -/
def lowP (t b : Int) : PyData := .tuple [.int (t / (Int.gcd t b : Nat)), .int (b / (Int.gcd t b : Nat))]
theorem lowP_scale {k t b : Int} (hk : 0 < k) : lowP (k * t) (k * b) = lowP t b := by
  unfold lowP
  have e : ((Int.gcd (k * t) (k * b) : Nat) : Int) = k * (Int.gcd t b : Nat) := by
    rw [Int.gcd_mul_left]
    push_cast
    rw [Int.natAbs_of_nonneg (by omega)]
  rw [e, Int.mul_ediv_mul_of_pos _ _ hk, Int.mul_ediv_mul_of_pos _ _ hk]
end DL
namespace K00
open PySem PySem.Spec PyProof.Rows L2 DL
theorem bok {α β : Type} {a : α} {f : α → R β} : (R.ok a).bind f = f a := rfl
theorem bex {α β : Type} {c : Nat} {f : α → R β} : (R.ex c : R α).bind f = .ex c := rfl
theorem nok {ρ : DL.Env} {f : DL.Env → R Fl} : R.next (.ok (.next ρ)) f = f ρ := rfl
theorem nret {d : PyData} {f : DL.Env → R Fl} : R.next (.ok (.ret d)) f = .ok (.ret d) := rfl
theorem tb {b : Bool} : truth (.bool b) = .ok b := rfl
theorem sv {d : PyData} : Sl.val (.sh d) = some d := rfl
theorem ut {f : List PyData → R PyData} {xs : List PyData} : unT f (.tuple xs) = f xs := rfl
theorem cd {x : PyData} {xs : List PyData} : consD x (.tuple xs) = .ok (.tuple (x :: xs)) := rfl
theorem eqI {i j : Int} : cmpD .eq (.int i) (.int j) = .ok (i == j) := rfl
theorem neI {i j : Int} : cmpD .ne (.int i) (.int j) = .ok (!(i == j)) := rfl
theorem ltI {i j : Int} : cmpD .lt (.int i) (.int j) = .ok (decide (i < j)) := rfl
theorem gtI {i j : Int} : cmpD .gt (.int i) (.int j) = .ok (decide (j < i)) := rfl
theorem geI {i j : Int} : cmpD .ge (.int i) (.int j) = .ok (decide (j ≤ i)) := rfl
theorem isN : cmpD .is_ .none .none = .ok true := rfl
theorem isI {i : Int} : cmpD .is_ (.int i) .none = .ok false := rfl
theorem abI {i : Int} : bltD .abs [.int i] = .ok (.int (if i < 0 then -i else i)) := rfl
theorem sbI {i j : Int} : binD .sub (.int i) (.int j) = .ok (.int (i - j)) := rfl
theorem ngI {i : Int} : negD (.int i) = .ok (.int (-i)) := rfl
theorem fd {i j : Int} (h1 : 0 < j) (h2 : j.natAbs.log2 < 9000) : binD .fdiv (.int i) (.int j) = .ok (.int (i / j)) := if_pos ⟨h1, h2⟩
theorem hd1 {ρ : DL.Env} (h : ρ.all fun s => match s with
  | .o1 _ => false
  | .o2 _ => false
  | _ => true) (n : Nat) : hideAt [] n ρ = ρ := by
  induction ρ generalizing n with
  | nil => rfl
  | cons s r ih =>
    rw [List.all_cons, Bool.and_eq_true] at h
    cases s <;> first | (exact absurd h.1 Bool.false_ne_true) | (unfold hideAt; rw [ih h.2])
abbrev cl (d : Nat) : Nat → List PyData → R PyData := callT T (runs T bs mt d)
theorem isi_int {i : Int} : isiD (.int i) "int" = .ok true := by kernel_rfl
theorem isi_bool {i : Int} : isiD (.int i) "bool" = .ok false := by kernel_rfl
theorem isi_tup {xs : List PyData} : isiD (.tuple xs) "tuple" = .ok true := by kernel_rfl
theorem whole {d : Nat} {i : Int} : cl (d + 1) 0 [.int i] = .ok (.bool true) := by
  show fin (exec (cl d) mt b0 (DL.envOf 2 [.int i, .none])) = _
  simp [b0, DL.exec, ev, DL.envOf, sv, bok, tb, isi_int, isi_bool, isN, isI, geI, fin]
theorem whole2 {d : Nat} {i l : Int} : cl (d + 1) 0 [.int i, .int l] = .ok (.bool (decide (l ≤ i))) := by
  show fin (exec (cl d) mt b0 (DL.envOf 2 [.int i, .int l])) = _
  simp [b0, DL.exec, ev, DL.envOf, sv, bok, tb, isi_int, isi_bool, isN, isI, geI, fin]
abbrev big9 : Nat := 2 ^ 8000
theorem common_ {d : Nat} {a b : Nat} (hb : b < big9) : cl (d + 1) 1 [.int a, .int b] = .ok (.int (Nat.gcd a b : Nat)) := by
  have q := euclid (fc := ev (cl d) (.cmp .gt (.var 1) (.int 0))) (fb := exec (cl d) mt (.par (some []) [0, 1] (.econs (.var 1) (.econs (.bin .mod (.var 0) (.var 1)) (.enil))) (.done))) (mk := fun a b => [.sh (.int a), .sh (.int b)])
    (fun a b => by simp [ev, Sl.val, R.bind, cmpD, truth]) (fun a b h => by simp [DL.exec, ev, Sl.val, R.bind, consD, binD, hideAt, parZ, setMany, give, h]) 8000 fuel a b hb (by decide)
  show fin (exec (cl d) mt b1 (DL.envOf 2 [.int a, .int b])) = _
  have q : whileGo (ev (cl d) (.cmp .gt (.var 1) (.int 0))) (exec (cl d) mt (.par (some []) [0, 1] (.econs (.var 1) (.econs (.bin .mod (.var 0) (.var 1)) (.enil))) (.done))) fuel (DL.envOf 2 [.int a, .int b]) = .ok (.next [.sh (.int (Nat.gcd a b : Nat)), .sh (.int 0)]) := q
  unfold b1
  rw [DL.exec, q]
  simp [DL.exec, ev, Sl.val, R.bind, R.next, fin]
/-- lowest terms, at any bottom but nought -/
def lowQ (t b : Int) : PyData := if b < 0 then lowP (-t) (-b) else lowP t b
theorem log_ok {n : Nat} (h : n < big9) : n.log2 < 9000 := by
  rcases Nat.eq_zero_or_pos n with e | e
  · subst e; decide
  · have : n.log2 < 8000 := (Nat.log2_lt (by omega)).mpr h
    omega
theorem gcd_bnd {t b : Int} (hb : 0 < b) (h : b.natAbs < big9) : 0 < ((Int.gcd t b : Nat) : Int) ∧ ((Int.gcd t b : Nat) : Int).natAbs.log2 < 9000 := by
  have h1 : 0 < Int.gcd t b := Int.gcd_pos_of_ne_zero_right _ (by omega)
  have h2 : Int.gcd t b ≤ b.natAbs := Nat.le_of_dvd (by omega) (Int.gcd_dvd_natAbs_right ..)
  exact ⟨by omega, log_ok (by simpa using Nat.lt_of_le_of_lt h2 h)⟩
theorem ratio_ {d : Nat} {t b : Int} (hb : b ≠ 0) (h : b.natAbs < big9) : cl (d + 2) 2 [.int t, .int b] = .ok (lowQ t b) := by
  show fin (exec (cl (d + 1)) mt b2 (DL.envOf 3 [.int t, .int b])) = _
  have key : ∀ t b : Int, 0 < b → b.natAbs < big9 → cl (d + 1) 1 [.int (if t < 0 then -t else t), .int b] = .ok (.int (Int.gcd t b : Nat)) := fun t b hb h => by
    have e1 : (if t < 0 then -t else t) = ((t.natAbs : Nat) : Int) := by split <;> omega
    have e2 : b = ((b.natAbs : Nat) : Int) := by omega
    rw [e1, e2]
    have := common_ (d := d) (a := t.natAbs) (b := b.natAbs) h
    rw [this]
    rfl
  by_cases hn : b < 0
  · obtain ⟨g1, g2⟩ := gcd_bnd (t := -t) (b := -b) (by omega) (by simpa using h)
    have k' := key (-t) (-b) (by omega) (by simpa using h)
    simp [b2, DL.exec, ev, DL.envOf, sv, bok, bex, nok, nret, tb, ut, cd, whole, eqI, ltI, ngI, abI, hideAt, parZ, give, setMany, hb, hn, lowQ]
    rw [show (if 0 < t then t else -t) = (if -t < 0 then - -t else -t) by simp, k']
    have e : Int.gcd (-t) (-b) = Int.gcd t b := by simp
    rw [e] at g1 g2 ⊢
    simp [bok, fd g1 g2, cd, lowP, fin]
  · obtain ⟨g1, g2⟩ := gcd_bnd (t := t) (b := b) (by omega) h
    have k' := key t b (by omega) h
    simp [b2, DL.exec, ev, DL.envOf, sv, bok, bex, nok, nret, tb, ut, cd, whole, eqI, ltI, ngI, abI, hideAt, parZ, give, setMany, hb, hn, lowQ, k', fd g1 g2, lowP, fin]
theorem ratio1 {d : Nat} {t : Int} : cl (d + 2) 2 [.int t] = .ok (.tuple [.int t, .int 1]) := by
  have q := ratio_ (d := d) (t := t) (b := 1) (by decide) (by decide)
  have e : lowQ t 1 = .tuple [.int t, .int 1] := by simp [lowQ, lowP]
  rw [e] at q
  exact q
def lowT : IS := .while_ fuel (.cmp .gt (.var 3) (.int 0))
    (.par (some []) [2, 3] (.econs (.var 3) (.econs (.bin .mod (.var 2) (.var 3)) (.enil)))
    (.done))
  (.ret (.tup (.econs (.bin .fdiv (.var 0) (.var 2)) (.econs (.bin .fdiv (.var 1) (.var 2)) (.enil)))))
theorem b18_is : b18 = .ite (.cmp .lt (.var 1) (.int 0))
    (.par (some []) [0, 1] (.econs (.bin .sub (.int 0) (.var 0)) (.econs (.bin .sub (.int 0) (.var 1)) (.enil)))
    (.done))
    (.done)
  (.par (some []) [2, 3] (.econs (.blt .abs (.econs (.var 0) (.enil))) (.econs (.var 1) (.enil))) lowT) := rfl
theorem lowT_ok {c : Nat → List PyData → R PyData} {t b : Int} (hb : 0 < b) (h : b.natAbs < big9) : exec c mt lowT [.sh (.int t), .sh (.int b), .sh (.int (if t < 0 then -t else t)), .sh (.int b)] = .ok (.ret (lowP t b)) := by
  have e1 : (if t < 0 then -t else t) = ((t.natAbs : Nat) : Int) := by split <;> omega
  have e2 : b = ((b.natAbs : Nat) : Int) := by omega
  obtain ⟨g1, g2⟩ := gcd_bnd (t := t) (b := b) hb h
  rw [e1]
  have q := euclid (fc := ev c (.cmp .gt (.var 3) (.int 0))) (fb := exec c mt (.par (some []) [2, 3] (.econs (.var 3) (.econs (.bin .mod (.var 2) (.var 3)) (.enil))) (.done))) (mk := fun x y => [.sh (.int t), .sh (.int b), .sh (.int x), .sh (.int y)])
    (fun x y => by simp [ev, sv, bok, gtI, tb]) (fun x y h => by simp [DL.exec, ev, sv, bok, cd, binD, hideAt, parZ, setMany, give, h]) 8000 fuel t.natAbs b.natAbs h (by decide)
  rw [← e2] at q
  unfold lowT
  rw [DL.exec, q, nok]
  have g : Nat.gcd t.natAbs b.natAbs = Int.gcd t b := rfl
  simp [DL.exec, ev, sv, bok, cd, g, fd g1 g2, lowP]
/-- the law's own lowest terms -/
theorem low_ {d : Nat} {t b : Int} (hb : b ≠ 0) (h : b.natAbs < big9) : cl (d + 1) 18 [.int t, .int b] = .ok (lowQ t b) := by
  show fin (exec (cl d) mt b18 (DL.envOf 4 [.int t, .int b])) = _
  rw [b18_is]
  by_cases hn : b < 0
  · have k' := lowT_ok (c := cl d) (t := -t) (b := -b) (by omega) (by simpa using h)
    have e3 : (if -t < 0 then - -t else -t) = if 0 < t then t else -t := by simp
    rw [e3] at k'
    simp [DL.exec, ev, DL.envOf, sv, bok, bex, nok, nret, tb, ut, cd, ltI, abI, sbI, hideAt, parZ, give, setMany, hn, lowQ, k', fin]
  · have k' := lowT_ok (c := cl d) (t := t) (b := b) (by omega) h
    simp [DL.exec, ev, DL.envOf, sv, bok, bex, nok, nret, tb, ut, cd, ltI, abI, hideAt, parZ, give, setMany, hn, lowQ, k', fin]
/-- fractions, as data -/
abbrev fr (t b : Int) : PyData := .tuple [.int t, .int b]
theorem isr {d : Nat} {t b : Int} (h : b.natAbs < big9) : cl (d + 2) 3 [fr t b] = .ok (.bool (decide (1 ≤ b) && decide (Int.gcd t b = 1))) := by
  show fin (exec (cl (d + 1)) mt b3 (DL.envOf 1 [fr t b])) = _
  by_cases hb : 1 ≤ b
  · have e1 : (if t < 0 then -t else t) = ((t.natAbs : Nat) : Int) := by split <;> omega
    have e2 : b = ((b.natAbs : Nat) : Int) := by omega
    have k := common_ (d := d) (a := t.natAbs) (b := b.natAbs) h
    rw [← e1, ← e2] at k
    have g : Nat.gcd t.natAbs b.natAbs = Int.gcd t b := rfl
    have z : ((Int.gcd t b : Nat) : Int) = 1 ↔ Int.gcd t b = 1 := by omega
    simp [b3, DL.exec, ev, DL.envOf, sv, bok, nok, tb, ut, cd, whole, whole2, isi_tup, subD, atD, bltD, neI, eqI, hb, k, g, fin, Int.ofNat]
    rw [Bool.eq_iff_iff]
    simp
    omega
  · simp [b3, DL.exec, ev, DL.envOf, sv, bok, nok, nret, tb, ut, cd, whole, whole2, isi_tup, subD, atD, bltD, neI, eqI, hb, fin]
theorem mulS {i j : Int} (h : smallI i = true) : binD .mul (.int i) (.int j) = .ok (.int (i * j)) := if_pos (by unfold mulOk; rw [h]; rfl)
theorem mulT {i j : Int} (h : smallI j = true) : binD .mul (.int i) (.int j) = .ok (.int (i * j)) := if_pos (by unfold mulOk; rw [h, Bool.or_true]; rfl)
theorem adI {i j : Int} : binD .add (.int i) (.int j) = .ok (.int (i + j)) := rfl
theorem p0 {x y : PyData} : subD (.tuple [x, y]) (.int 0) = .ok x := rfl
theorem p1 {x y : PyData} : subD (.tuple [x, y]) (.int 1) = .ok y := rfl
section
variable {d : Nat} {t b u c : Int} (h1 : smallI u = true) (h2 : smallI c = true)
include h1 h2
theorem add_ : cl (d + 1) 5 [fr t b, fr u c] = cl d 2 [.int (t * c + u * b), .int (b * c)] := by
  show fin (exec (cl d) mt b5 (DL.envOf 2 [fr t b, fr u c])) = _
  simp [b5, DL.exec, ev, DL.envOf, sv, bok, ut, cd, p0, p1, mulS h1, mulS h2, mulT h1, mulT h2, adI]
  cases cl d 2 [.int (t * c + u * b), .int (b * c)] <;> rfl
theorem less_ : cl (d + 1) 6 [fr t b, fr u c] = cl d 2 [.int (t * c - u * b), .int (b * c)] := by
  show fin (exec (cl d) mt b6 (DL.envOf 2 [fr t b, fr u c])) = _
  simp [b6, DL.exec, ev, DL.envOf, sv, bok, ut, cd, p0, p1, mulS h1, mulS h2, mulT h1, mulT h2, sbI]
  cases cl d 2 [.int (t * c - u * b), .int (b * c)] <;> rfl
theorem times_ : cl (d + 1) 7 [fr t b, fr u c] = cl d 2 [.int (t * u), .int (b * c)] := by
  show fin (exec (cl d) mt b7 (DL.envOf 2 [fr t b, fr u c])) = _
  simp [b7, DL.exec, ev, DL.envOf, sv, bok, ut, cd, p0, p1, mulS h1, mulS h2, mulT h1, mulT h2]
  cases cl d 2 [.int (t * u), .int (b * c)] <;> rfl
theorem over_ (hu : u ≠ 0) : cl (d + 1) 8 [fr t b, fr u c] = cl d 2 [.int (t * c), .int (b * u)] := by
  show fin (exec (cl d) mt b8 (DL.envOf 2 [fr t b, fr u c])) = _
  simp [b8, DL.exec, ev, DL.envOf, sv, bok, nok, tb, eqI, hu, ut, cd, p0, p1, mulS h1, mulS h2, mulT h1, mulT h2]
  cases cl d 2 [.int (t * c), .int (b * u)] <;> rfl
theorem ladd_ : cl (d + 1) 19 [fr t b, fr u c] = cl d 18 [.int (t * c + u * b), .int (b * c)] := by
  show fin (exec (cl d) mt b19 (DL.envOf 2 [fr t b, fr u c])) = _
  simp [b19, DL.exec, ev, DL.envOf, sv, bok, ut, cd, p0, p1, mulS h1, mulS h2, mulT h1, mulT h2, adI]
  cases cl d 18 [.int (t * c + u * b), .int (b * c)] <;> rfl
theorem lunder_ : cl (d + 1) 21 [fr t b, fr u c] = .ok (.bool (decide (t * c < u * b))) := by
  show fin (exec (cl d) mt b21 (DL.envOf 2 [fr t b, fr u c])) = _
  simp [b21, DL.exec, ev, DL.envOf, sv, bok, ut, cd, p0, p1, mulS h1, mulS h2, mulT h1, mulT h2, ltI, fin]
end
/-- in lowest terms, the bottom above nought, not too big -/
structure Fr (t b : Int) : Prop where
  pos : 1 ≤ b
  low : Int.gcd t b = 1
  big : b.natAbs < big9
theorem isr_ {d : Nat} {t b : Int} (f : Fr t b) : cl (d + 2) 3 [fr t b] = .ok (.bool true) := by
  rw [isr f.big, decide_eq_true f.pos, decide_eq_true f.low]
  rfl
theorem under_ {d : Nat} {t b u c : Int} (h1 : smallI u = true) (h2 : smallI c = true) (f : Fr t b) (g : Fr u c) : cl (d + 3) 11 [fr t b, fr u c] = .ok (.bool (decide (t * c < u * b))) := by
  show fin (exec (cl (d + 2)) mt b11 (DL.envOf 2 [fr t b, fr u c])) = _
  simp [b11, DL.exec, ev, DL.envOf, sv, bok, nok, tb, ut, cd, p0, p1, mulS h1, mulS h2, mulT h1, mulT h2, ltI, fin, isr_ f, isr_ g]
theorem check_ {d : Nat} {t b : Int} (f : Fr t b) : cl (d + 3) 4 [fr t b] = .ok .none := by
  show fin (exec (cl (d + 2)) mt b4 (DL.envOf 1 [fr t b])) = _
  simp [b4, DL.exec, ev, DL.envOf, sv, bok, nok, tb, ut, cd, isr_ f, fin]
theorem size_ {d : Nat} {t b : Int} (f : Fr t b) : cl (d + 4) 14 [fr t b] = .ok (fr (if t < 0 then -t else t) b) := by
  show fin (exec (cl (d + 3)) mt b14 (DL.envOf 1 [fr t b])) = _
  simp [b14, DL.exec, ev, DL.envOf, sv, bok, nok, tb, ut, cd, check_ f, p0, p1, abI, fin]
end K00
namespace K00
open PySem PySem.Spec PyProof.Rows L2 DL
/-! ### walks that fold -/
theorem fold_loop {fb : DL.Env → R Fl} {V : PyData} {st : PyData → PyData → PyData} {P : Nat → PyData → Prop} {Q : PyData → Prop} {N : Nat}
    (h : ∀ k f d, k < N → P k f → Q d → fb [.sh V, .sh f, .sh d] = .ok (.next [.sh V, .sh (st f d), .sh d]) ∧ P (k + 1) (st f d)) :
    ∀ (xs : List PyData) (k : Nat) (f : PyData) (s : Sl), k + xs.length ≤ N → (∀ d ∈ xs, Q d) → P k f → ∃ s', forGo (.one 2) fb xs [.sh V, .sh f, s] = .ok (.next [.sh V, .sh (xs.foldl st f), s']) ∧ P (k + xs.length) (xs.foldl st f)
  | [], k, f, s, _, _, hP => ⟨s, rfl, hP⟩
  | d :: ds, k, f, s, hn, hQ, hP => by
    rw [List.length_cons] at hn
    obtain ⟨h1, h2⟩ := h k f d (by omega) hP (hQ d List.mem_cons_self)
    obtain ⟨s', h3, h4⟩ := fold_loop h ds (k + 1) (st f d) (.sh d) (by omega) (fun x hx => hQ x (List.mem_cons_of_mem _ hx)) h2
    refine ⟨s', ?_, ?_⟩
    · unfold forGo
      show (fb [.sh V, .sh f, .sh d]).bind _ = _
      rw [h1]
      exact h3
    · rw [List.length_cons, List.foldl_cons, show k + (ds.length + 1) = k + 1 + ds.length by omega]
      exact h4
/-- small fractions in lowest terms -/
structure Sm (t b : Int) : Prop where
  fr : Fr t b
  st : smallI t = true
  sb : smallI b = true
def isSm (d : PyData) : Prop := ∃ t b, d = fr t b ∧ Sm t b
def addP (f d : PyData) : PyData := match f, d with
  | .tuple [.int x, .int y], .tuple [.int u, .int c] => lowP (x * c + u * y) (y * c)
  | _, _ => .none
/-- a fraction, its bottom not above 2 ^ (64 k) -/
def isFr (k : Nat) (d : PyData) : Prop := ∃ t b, d = fr t b ∧ 1 ≤ b ∧ b.natAbs ≤ 2 ^ (64 * k)
theorem lowP_bnd {t b : Int} (hb : 1 ≤ b) : ∃ x y, lowP t b = fr x y ∧ 1 ≤ y ∧ y.natAbs ≤ b.natAbs := by
  refine ⟨_, _, rfl, ?_, ?_⟩
  · have h1 : 0 < Int.gcd t b := Int.gcd_pos_of_ne_zero_right _ (by omega)
    have h2 : ((Int.gcd t b : Nat) : Int) ∣ b := Int.gcd_dvd_right ..
    obtain ⟨q, e⟩ := h2
    have e2 : b / ((Int.gcd t b : Nat) : Int) = q := Int.ediv_eq_of_eq_mul_right (by omega) e
    rw [e2]
    have : 0 < q := by
      rcases Int.lt_or_le 0 q with z | z
      · exact z
      · have w := Int.mul_nonpos_of_nonneg_of_nonpos (show (0 : Int) ≤ (Int.gcd t b : Nat) by omega) z
        rw [← e] at w
        omega
    omega
  · have h1 : b / ((Int.gcd t b : Nat) : Int) ≤ b := Int.ediv_le_self _ (by omega)
    have h2 : 0 ≤ b / ((Int.gcd t b : Nat) : Int) := Int.ediv_nonneg (by omega) (by omega)
    omega
theorem smL {i : Int} (h : smallI i = true) : i.natAbs < 2 ^ 64 := by
  have := Nat.blt_eq.mp h
  rw [two64n]
  exact this
theorem low_pow {k : Nat} {y c : Int} (hk : k < 100) (h1 : y.natAbs ≤ 2 ^ (64 * k)) (h2 : smallI c = true) : (y * c).natAbs ≤ 2 ^ (64 * (k + 1)) ∧ (y * c).natAbs < big9 := by
  have h3 := smL h2
  have h4 : (y * c).natAbs ≤ 2 ^ (64 * (k + 1)) := by
    rw [Int.natAbs_mul, show 64 * (k + 1) = 64 * k + 64 by omega, Nat.pow_add]
    exact Nat.mul_le_mul h1 (by omega)
  refine ⟨h4, Nat.lt_of_le_of_lt h4 ?_⟩
  exact Nat.pow_lt_pow_right (by decide) (by omega)
theorem addP_step {d : Nat} {k : Nat} {f v : PyData} (hk : k < 100) (hf : isFr k f) (hv : isSm v) : cl (d + 3) 5 [f, v] = .ok (addP f v) ∧ cl (d + 2) 19 [f, v] = .ok (addP f v) ∧ isFr (k + 1) (addP f v) := by
  obtain ⟨x, y, rfl, hy, hyb⟩ := hf
  obtain ⟨u, c, rfl, s⟩ := hv
  obtain ⟨b1, b2⟩ := low_pow (c := c) hk hyb s.sb
  have hc := s.fr.pos
  have pos : 1 ≤ y * c := Int.mul_pos (by omega) (by omega)
  have e : lowQ (x * c + u * y) (y * c) = lowP (x * c + u * y) (y * c) := if_neg (by omega)
  refine ⟨?_, ?_, ?_⟩
  · rw [add_ s.st s.sb, ratio_ (by omega) b2, e]
    rfl
  · rw [ladd_ s.st s.sb, low_ (by omega) b2, e]
    rfl
  · obtain ⟨p, q, e1, e2, e3⟩ := lowP_bnd (t := x * c + u * y) pos
    exact ⟨p, q, e1, e2, Nat.le_trans e3 b1⟩
def totB : IS := .set (.z []) 1 (.call 5 (.econs (.var 1) (.econs (.var 2) (.enil)))) (.done)
def lsmB : IS := .set (.z []) 1 (.call 19 (.econs (.var 1) (.econs (.var 2) (.enil)))) (.done)
theorem setB {c : Nat → List PyData → R PyData} {V f v w : PyData} {j : Nat} (h : c j [f, v] = .ok w) : exec c mt (.set (.z []) 1 (.call j (.econs (.var 1) (.econs (.var 2) (.enil)))) (.done)) [.sh V, .sh f, .sh v] = .ok (.next [.sh V, .sh w, .sh v]) := by
  simp [DL.exec, ev, sv, bok, ut, cd, hideAt, give, h]
theorem total_ {d : Nat} {xs : List PyData} (hx : ∀ x ∈ xs, isSm x) (hl : xs.length ≤ 50) : cl (d + 4) 10 [.tuple xs] = .ok (xs.foldl addP (fr 0 1)) ∧ cl (d + 3) 20 [.tuple xs] = .ok (xs.foldl addP (fr 0 1)) := by
  have z : isFr 0 (fr 0 1) := ⟨0, 1, rfl, by decide, by decide⟩
  constructor
  · obtain ⟨s', e, _⟩ := fold_loop (fb := exec (cl (d + 3)) mt totB) (V := .tuple xs) (st := addP) (P := isFr) (Q := isSm) (N := 50) (fun k f v hk hP hQ => by
      obtain ⟨h1, _, h3⟩ := addP_step (d := d) (by omega) hP hQ
      exact ⟨setB h1, h3⟩) xs 0 (fr 0 1) .un (by omega) hx z
    show fin (exec (cl (d + 3)) mt (.set (.z []) 1 (.glob 0 (.tuple [.int 0, .int 1])) (.for_ (.one 2) [] (.iseq (.var 0)) totB (.ret (.var 1)))) (DL.envOf 3 [.tuple xs])) = _
    simp [DL.exec, ev, DL.envOf, sv, bok, nok, hideAt, forD, seqOf, give]
    rw [e]
    simp [nok, bok, sv, fin]
  · obtain ⟨s', e, _⟩ := fold_loop (fb := exec (cl (d + 2)) mt lsmB) (V := .tuple xs) (st := addP) (P := isFr) (Q := isSm) (N := 50) (fun k f v hk hP hQ => by
      obtain ⟨_, h2, h3⟩ := addP_step (d := d) (by omega) hP hQ
      exact ⟨setB h2, h3⟩) xs 0 (fr 0 1) .un (by omega) hx z
    show fin (exec (cl (d + 2)) mt (.set (.z []) 1 (.tup (.econs (.int 0) (.econs (.int 1) (.enil)))) (.for_ (.one 2) [] (.iseq (.var 0)) lsmB (.ret (.var 1)))) (DL.envOf 3 [.tuple xs])) = _
    simp [DL.exec, ev, DL.envOf, sv, bok, nok, cd, hideAt, forD, seqOf, give]
    rw [e]
    simp [nok, bok, sv, fin]
end K00
namespace K00
open PySem PySem.Spec PyProof.Rows L2 DL
/-! ### the least of a row -/
def undP (a b : PyData) : Bool := match a, b with
  | .tuple [.int t, .int b], .tuple [.int u, .int c] => decide (t * c < u * b)
  | _, _ => false
theorem cross {t b u c v e : Int} (hc : 0 < c) (hb : 0 < b) (he : 0 < e) (h1 : t * c < u * b) (h2 : u * e ≤ v * c) : t * e < v * b := by
  have a1 : t * c * e < u * b * e := Int.mul_lt_mul_of_pos_right h1 he
  have a2 : u * e * b ≤ v * c * b := Int.mul_le_mul_of_nonneg_right h2 (by omega)
  have a3 : t * e * c < v * b * c := by
    have e1 : t * c * e = t * e * c := by rw [Int.mul_assoc, Int.mul_comm c e, ← Int.mul_assoc]
    have e2 : u * b * e = u * e * b := by rw [Int.mul_assoc, Int.mul_comm b e, ← Int.mul_assoc]
    have e3 : v * c * b = v * b * c := by rw [Int.mul_assoc, Int.mul_comm c b, ← Int.mul_assoc]
    omega
  exact Int.lt_of_mul_lt_mul_right a3 (by omega)
theorem und_irr {a : PyData} (ha : isSm a) : undP a a = false := by
  obtain ⟨t, b, rfl, _⟩ := ha
  simp [undP]
theorem und_lt {a b c : PyData} (ha : isSm a) (hb : isSm b) (hc : isSm c) (h1 : undP a b = true) (h2 : undP c b = false) : undP a c = true := by
  obtain ⟨t, p, rfl, sa⟩ := ha
  obtain ⟨u, q, rfl, sb⟩ := hb
  obtain ⟨v, r, rfl, sc⟩ := hc
  simp only [undP, decide_eq_true_eq, decide_eq_false_iff_not, Int.not_lt] at h1 h2 ⊢
  exact cross (by have := sb.fr.pos; omega) (by have := sa.fr.pos; omega) (by have := sc.fr.pos; omega) h1 h2
theorem und_asym {a b : PyData} (ha : isSm a) (hb : isSm b) (h1 : undP a b = true) : undP b a = false := by
  cases h : undP b a with
  | false => rfl
  | true =>
    have := und_lt ha hb ha h1 (by
      obtain ⟨t, p, rfl, sa⟩ := ha
      obtain ⟨u, q, rfl, sb⟩ := hb
      simp only [undP, decide_eq_true_eq, decide_eq_false_iff_not] at h1 h ⊢
      omega)
    rw [und_irr ha] at this
    cases this
/-- the first of the least ones, by a relation lt -/
theorem first_low {lt : PyData → PyData → Bool} (irr : ∀ a, isSm a → lt a a = false) (step : ∀ a b c, isSm a → isSm b → isSm c → lt a b = true → lt c b = false → lt a c = true) (asym : ∀ a b, isSm a → isSm b → lt a b = true → lt b a = false) :
    ∀ (ys pre : List PyData) (m : PyData), isSm m → (∀ y ∈ ys, isSm y) → (∃ A B, pre = A ++ m :: B ∧ (∀ a ∈ A, isSm a ∧ lt m a = true) ∧ ∀ b ∈ B, isSm b ∧ lt b m = false) →
      ∃ A B, pre ++ ys = A ++ ys.foldl (fun f v => if lt v f then v else f) m :: B ∧ (∀ a ∈ A, isSm a ∧ lt (ys.foldl (fun f v => if lt v f then v else f) m) a = true) ∧ ∀ b ∈ B, isSm b ∧ lt b (ys.foldl (fun f v => if lt v f then v else f) m) = false
  | [], pre, m, hm, _, h => by simpa using h
  | v :: ys, pre, m, hm, hy, ⟨A, B, e, hA, hB⟩ => by
    have hv := hy v List.mem_cons_self
    have hy' : ∀ y ∈ ys, isSm y := fun y h => hy y (List.mem_cons_of_mem _ h)
    rw [show pre ++ v :: ys = (pre ++ [v]) ++ ys by simp, List.foldl_cons]
    cases c : lt v m with
    | true =>
      rw [if_pos rfl]
      refine first_low irr step asym ys (pre ++ [v]) v hv hy' ⟨pre, [], rfl, fun a ha => ?_, fun b hb => by cases hb⟩
      rw [e] at ha
      rcases List.mem_append.mp ha with z | z
      · obtain ⟨s, l⟩ := hA a z
        exact ⟨s, step v m a hv hm s c (asym m a hm s l)⟩
      · rcases List.mem_cons.mp z with z | z
        · subst z; exact ⟨hm, c⟩
        · obtain ⟨s, l⟩ := hB a z
          exact ⟨s, step v m a hv hm s c l⟩
    | false =>
      rw [if_neg Bool.false_ne_true]
      refine first_low irr step asym ys (pre ++ [v]) m hm hy' ⟨A, B ++ [v], by rw [e]; simp, hA, fun b hb => ?_⟩
      rcases List.mem_append.mp hb with z | z
      · exact hB b z
      · have : b = v := by simpa using z
        subst this
        exact ⟨hv, c⟩
theorem filter_low {lt : PyData → PyData → Bool} (irr : ∀ a, isSm a → lt a a = false) (step : ∀ a b c, isSm a → isSm b → isSm c → lt a b = true → lt c b = false → lt a c = true) (asym : ∀ a b, isSm a → isSm b → lt a b = true → lt b a = false)
    {x : PyData} {xs : List PyData} (h : ∀ y ∈ x :: xs, isSm y) : ∃ r, (x :: xs).filter (fun r => ((x :: xs).filter fun o => lt o r).isEmpty) = (x :: xs).foldl (fun f v => if lt v f then v else f) x :: r := by
  have hx := h x List.mem_cons_self
  have e0 : (x :: xs).foldl (fun f v => if lt v f then v else f) x = xs.foldl (fun f v => if lt v f then v else f) x := by
    rw [List.foldl_cons, irr x hx, if_neg Bool.false_ne_true]
  obtain ⟨A, B, e, hA, hB⟩ := first_low irr step asym xs [x] x hx (fun y hy => h y (List.mem_cons_of_mem _ hy)) ⟨[], [], rfl, (fun a ha => by cases ha), (fun b hb => by cases hb)⟩
  rw [e0]
  have e : x :: xs = A ++ xs.foldl (fun f v => if lt v f then v else f) x :: B := e
  generalize xs.foldl (fun f v => if lt v f then v else f) x = m at *
  have hm : isSm m := h m (by rw [e]; simp)
  have drop : A.filter (fun r => ((x :: xs).filter fun o => lt o r).isEmpty) = [] := by
    rw [List.filter_eq_nil_iff]
    intro a ha
    obtain ⟨s, l⟩ := hA a ha
    rw [List.isEmpty_iff, List.filter_eq_nil_iff]
    intro z
    exact z m (by rw [e]; simp) l
  have keep : ((x :: xs).filter fun o => lt o m).isEmpty = true := by
    rw [List.isEmpty_iff, List.filter_eq_nil_iff]
    intro o ho
    rw [e] at ho
    rcases List.mem_append.mp ho with z | z
    · obtain ⟨s, l⟩ := hA o z
      rw [asym m o hm s l]
      simp
    · rcases List.mem_cons.mp z with z | z
      · subst z; rw [irr _ hm]; simp
      · rw [(hB o z).2]; simp
  refine ⟨B.filter (fun r => ((x :: xs).filter fun o => lt o r).isEmpty), ?_⟩
  conv => lhs; arg 2; rw [e]
  rw [List.filter_append, drop, List.nil_append, List.filter_cons, if_pos keep]
theorem und_low {x : PyData} {xs : List PyData} (h : ∀ y ∈ x :: xs, isSm y) : ∃ r, (x :: xs).filter (fun r => ((x :: xs).filter fun o => undP o r).isEmpty) = (x :: xs).foldl (fun f v => if undP v f then v else f) x :: r :=
  filter_low (fun _ => und_irr) (fun a b c => und_lt) (fun a b => und_asym) h
theorem und_high {x : PyData} {xs : List PyData} (h : ∀ y ∈ x :: xs, isSm y) : ∃ r, (x :: xs).filter (fun r => ((x :: xs).filter fun o => undP r o).isEmpty) = (x :: xs).foldl (fun f v => if undP f v then v else f) x :: r := by
  refine filter_low (lt := fun a b => undP b a) (fun _ => und_irr) (fun a b c ha hb hc h1 h2 => ?_) (fun a b ha hb h1 => und_asym hb ha h1) h
  cases q : undP c a with
  | true => rfl
  | false =>
    -- c is not under a; b is under a; so b is under c
    have := und_lt hb ha hc h1 q
    rw [this] at h2
    cases h2
end K00
namespace K00
open PySem PySem.Spec PyProof.Rows L2 DL
theorem undC {d : Nat} {a b : PyData} (ha : isSm a) (hb : isSm b) : cl (d + 3) 11 [a, b] = .ok (.bool (undP a b)) ∧ cl (d + 1) 21 [a, b] = .ok (.bool (undP a b)) := by
  obtain ⟨t, p, rfl, sa⟩ := ha
  obtain ⟨u, q, rfl, sb⟩ := hb
  exact ⟨under_ sb.st sb.sb sa.fr sb.fr, lunder_ sb.st sb.sb⟩
def leastB : IS := .ite (.call 11 (.econs (.var 2) (.econs (.var 1) (.enil)))) (.set (.z []) 1 (.var 2) (.done)) (.done) (.done)
def mostB : IS := .ite (.call 11 (.econs (.var 1) (.econs (.var 2) (.enil)))) (.set (.z []) 1 (.var 2) (.done)) (.done) (.done)
theorem least_ {d : Nat} {x : PyData} {xs : List PyData} (hx : ∀ y ∈ x :: xs, isSm y) : cl (d + 4) 12 [.tuple (x :: xs)] = .ok ((x :: xs).foldl (fun f v => if undP v f then v else f) x) := by
  obtain ⟨s', e, _⟩ := fold_loop (fb := exec (cl (d + 3)) mt leastB) (V := .tuple (x :: xs)) (st := fun f v => if undP v f then v else f) (P := fun _ f => isSm f) (Q := isSm) (N := (x :: xs).length) (fun k f v hk hP hQ => by
    have q := (undC (d := d) hQ hP).1
    cases c : undP v f with
    | true =>
      rw [c] at q
      exact ⟨by simp [leastB, DL.exec, ev, sv, bok, nok, tb, ut, cd, hideAt, give, q], hQ⟩
    | false =>
      rw [c] at q
      exact ⟨by simp [leastB, DL.exec, ev, sv, bok, nok, tb, ut, cd, hideAt, give, q], hP⟩) (x :: xs) 0 x .un (by omega) hx (hx x List.mem_cons_self)
  show fin (exec (cl (d + 3)) mt (.set (.z []) 1 (.sub (.var 0) (.int 0)) (.for_ (.one 2) [] (.iseq (.var 0)) leastB (.ret (.var 1)))) (DL.envOf 3 [.tuple (x :: xs)])) = _
  have z : subD (.tuple (x :: xs)) (.int 0) = .ok x := rfl
  simp only [DL.exec, ev, DL.envOf, sv, bok, nok, hideAt, forD, seqOf, give, z, List.map_cons, List.map_nil, List.length_cons, List.length_nil, List.cons_append, List.nil_append, List.getElem?_cons_zero, List.getElem?_cons_succ, List.replicate, List.set_cons_zero, List.set_cons_succ, Nat.sub_zero, Nat.reduceSub, Nat.reduceAdd, List.replicate_succ, List.replicate_zero]
  rw [e]
  simp [nok, bok, sv, fin]
theorem most_ {d : Nat} {x : PyData} {xs : List PyData} (hx : ∀ y ∈ x :: xs, isSm y) : cl (d + 4) 13 [.tuple (x :: xs)] = .ok ((x :: xs).foldl (fun f v => if undP f v then v else f) x) := by
  obtain ⟨s', e, _⟩ := fold_loop (fb := exec (cl (d + 3)) mt mostB) (V := .tuple (x :: xs)) (st := fun f v => if undP f v then v else f) (P := fun _ f => isSm f) (Q := isSm) (N := (x :: xs).length) (fun k f v hk hP hQ => by
    have q := (undC (d := d) hP hQ).1
    cases c : undP f v with
    | true =>
      rw [c] at q
      exact ⟨by simp [mostB, DL.exec, ev, sv, bok, nok, tb, ut, cd, hideAt, give, q], hQ⟩
    | false =>
      rw [c] at q
      exact ⟨by simp [mostB, DL.exec, ev, sv, bok, nok, tb, ut, cd, hideAt, give, q], hP⟩) (x :: xs) 0 x .un (by omega) hx (hx x List.mem_cons_self)
  show fin (exec (cl (d + 3)) mt (.set (.z []) 1 (.sub (.var 0) (.int 0)) (.for_ (.one 2) [] (.iseq (.var 0)) mostB (.ret (.var 1)))) (DL.envOf 3 [.tuple (x :: xs)])) = _
  have z : subD (.tuple (x :: xs)) (.int 0) = .ok x := rfl
  simp only [DL.exec, ev, DL.envOf, sv, bok, nok, hideAt, forD, seqOf, give, z, List.map_cons, List.map_nil, List.length_cons, List.length_nil, List.cons_append, List.nil_append, List.getElem?_cons_zero, List.getElem?_cons_succ, List.replicate, List.set_cons_zero, List.set_cons_succ, Nat.sub_zero, Nat.reduceSub, Nat.reduceAdd, List.replicate_succ, List.replicate_zero]
  rw [e]
  simp [nok, bok, sv, fin]
/-! ### powers -/
/-- found, a power in lowest terms -/
def isPw (t b : Int) (k : Nat) (d : PyData) : Prop := ∃ G x y : Int, 0 < G ∧ d = fr x y ∧ 1 ≤ y ∧ Int.gcd x y = 1 ∧ t ^ k = G * x ∧ b ^ k = G * y ∧ y.natAbs ≤ 2 ^ (64 * k)
theorem lowP_of {t b : Int} (hb : 1 ≤ b) : ∃ G x y : Int, 0 < G ∧ lowP t b = fr x y ∧ 1 ≤ y ∧ Int.gcd x y = 1 ∧ t = G * x ∧ b = G * y ∧ y.natAbs ≤ b.natAbs := by
  obtain ⟨x, y, e, h1, h2⟩ := lowP_bnd (t := t) hb
  have hg : 0 < Int.gcd t b := Int.gcd_pos_of_ne_zero_right _ (by omega)
  have ex : x = t / ((Int.gcd t b : Nat) : Int) := by unfold lowP at e; cases e; rfl
  have ey : y = b / ((Int.gcd t b : Nat) : Int) := by unfold lowP at e; cases e; rfl
  refine ⟨(Int.gcd t b : Nat), x, y, by omega, e, h1, ?_, ?_, ?_, h2⟩
  · rw [ex, ey]
    exact Int.gcd_ediv_gcd_ediv_gcd hg
  · rw [ex]; exact (Int.mul_ediv_cancel' (Int.gcd_dvd_left ..)).symm
  · rw [ey]; exact (Int.mul_ediv_cancel' (Int.gcd_dvd_right ..)).symm
end K00
namespace K00
open PySem PySem.Spec PyProof.Rows L2 DL
theorem pw_step {d k : Nat} {t b : Int} (s : Sm t b) (hk : k < 100) {f : PyData} (h : isPw t b k f) : ∃ f', cl (d + 3) 7 [f, fr t b] = .ok f' ∧ isPw t b (k + 1) f' := by
  obtain ⟨G, x, y, hG, rfl, hy, hg, e1, e2, hb⟩ := h
  have hbp := s.fr.pos
  obtain ⟨b1, b2⟩ := low_pow (c := b) hk hb s.sb
  have pos : 1 ≤ y * b := Int.mul_pos (by omega) (by omega)
  obtain ⟨g, x', y', hg', e3, h1, h2, e4, e5, h3⟩ := lowP_of (t := x * t) (b := y * b) pos
  refine ⟨fr x' y', ?_, G * g, x', y', Int.mul_pos hG hg', rfl, h1, h2, ?_, ?_, Nat.le_trans h3 b1⟩
  · rw [times_ s.st s.sb, ratio_ (by omega) b2, ← e3]
    exact congrArg R.ok (if_neg (by omega))
  · rw [Int.pow_succ, e1, Int.mul_assoc, e4, Int.mul_assoc]
  · rw [Int.pow_succ, e2, Int.mul_assoc, e5, Int.mul_assoc]
def powB : IS := .set (.z []) 2 (.call 7 (.econs (.var 2) (.econs (.var 0) (.enil)))) (.done)
theorem pw_loop {d : Nat} {t b : Int} {N : PyData} (s : Sm t b) : ∀ (xs : List PyData) (k : Nat) (f : PyData) (s3 : Sl), k + xs.length ≤ 100 → isPw t b k f →
    ∃ f' s', forGo (.one 3) (exec (cl (d + 3)) mt powB) xs [.sh (fr t b), .sh N, .sh f, s3] = .ok (.next [.sh (fr t b), .sh N, .sh f', s']) ∧ isPw t b (k + xs.length) f'
  | [], k, f, s3, _, h => ⟨f, s3, rfl, h⟩
  | x :: xs, k, f, s3, hk, h => by
    rw [List.length_cons] at hk
    obtain ⟨f1, e1, h1⟩ := pw_step (d := d) s (by omega) h
    obtain ⟨f2, s', e2, h2⟩ := pw_loop (d := d) (N := N) s xs (k + 1) f1 (.sh x) (by omega) h1
    refine ⟨f2, s', ?_, by rw [List.length_cons, show k + (xs.length + 1) = k + 1 + xs.length by omega]; exact h2⟩
    unfold forGo
    have q : exec (cl (d + 3)) mt powB [.sh (fr t b), .sh N, .sh f, .sh x] = .ok (.next [.sh (fr t b), .sh N, .sh f1, .sh x]) := by
      simp [powB, DL.exec, ev, sv, bok, ut, cd, hideAt, give, e1]
    show (exec (cl (d + 3)) mt powB [.sh (fr t b), .sh N, .sh f, .sh x]).bind _ = _
    rw [q]
    exact e2
theorem power_ {d n : Nat} {t b : Int} (s : Sm t b) (hn : n ≤ 50) : ∃ f, cl (d + 4) 9 [fr t b, .int n] = .ok f ∧ isPw t b n f := by
  have z : isPw t b 0 (fr 1 1) := ⟨1, 1, 1, by decide, rfl, by decide, by decide, by simp, by simp, by decide⟩
  obtain ⟨f, s', e, h⟩ := pw_loop (d := d) (N := .int n) s (rng 0 n) 0 (fr 1 1) .un (by rw [rng_length]; omega) z
  rw [rng_length, Nat.zero_add] at h
  refine ⟨f, ?_, h⟩
  have hb : bnd (n : Int) = true := by
    unfold bnd
    rw [Nat.blt_eq]
    omega
  have h1 : ¬ (1000 : Int) < n := by omega
  have h2 : (0 : Int) ≤ n := by omega
  show fin (exec (cl (d + 3)) mt (.expr (.call 4 (.econs (.var 0) (.enil))) (.ite (.or (.not (.call 0 (.econs (.var 1) (.econs (.int 0) (.enil))))) (.one (.cmp .gt (.var 1) (.int 1000)))) (.raise 2) (.done)
    (.set (.z []) 2 (.glob 1 (.tuple [.int 1, .int 1])) (.for_ (.one 3) [] (.ir1 (.var 1)) powB (.ret (.var 2)))))) (DL.envOf 4 [fr t b, .int n])) = _
  simp [DL.exec, ev, DL.envOf, sv, bok, nok, tb, ut, cd, hideAt, give, check_ s.fr, whole2, gtI, h1, h2, forD, r1D, hb]
  rw [e]
  simp [nok, bok, sv, fin]
theorem pw_low {d n : Nat} {t b : Int} {f : PyData} (hb : 1 ≤ b) (hs : smallI b = true) (hn : n ≤ 50) (h : isPw t b n f) : cl (d + 1) 18 [.int (t ^ n), .int (b ^ n)] = .ok f := by
  obtain ⟨G, x, y, hG, rfl, hy, hg, e1, e2, hyb⟩ := h
  have p : 0 < b ^ n := Int.pow_pos (by omega)
  have bb : (b ^ n).natAbs < big9 := by
    rw [Int.natAbs_pow]
    have h1 := smL hs
    refine Nat.lt_of_le_of_lt (Nat.pow_le_pow_left (Nat.le_of_lt h1) n) ?_
    rw [← Nat.pow_mul]
    exact Nat.pow_lt_pow_right (by decide) (by omega)
  rw [low_ (by omega) bb]
  have e : lowQ (t ^ n) (b ^ n) = lowP (t ^ n) (b ^ n) := if_neg (by omega)
  rw [e, e1, e2, lowP_scale hG]
  unfold lowP
  rw [hg]
  simp
end K00
namespace K00
open PySem PySem.Spec PyProof.Rows L2 DL
theorem eqF {x y : Int} : cmpD .ne (fr x y) (fr x y) = .ok false := by
  have h : SeqAt.shaped (fr x y) = true := by rfl
  have q : PyData.eqv (fr x y) (fr x y) = true := by simp [PyData.eqv, PyData.eqvAll]
  have e : eqD (fr x y) (fr x y) = .ok (PyData.eqv (fr x y) (fr x y)) := by simp only [eqD, h, Bool.and_self, if_true]
  simp only [cmpD, e, q]
  rfl
structure Law (A B C D t b u c g h : Int) : Prop where
  eA : A = g * t
  eB : B = g * b
  eC : C = h * u
  eD : D = h * c
  pg : 0 < g
  ph : 0 < h
  s : Sm t b
  r : Sm u c
  A1 : -45 ≤ A ∧ A ≤ 45
  B1 : 1 ≤ B ∧ B ≤ 40
  C1 : -45 ≤ C ∧ C ≤ 45
  D1 : 1 ≤ D ∧ D ≤ 40
  low1 : lowP A B = fr t b
  low2 : lowP C D = fr u c
theorem small_of {i : Int} (h1 : -100000 ≤ i) (h2 : i ≤ 100000) : smallI i = true := by
  unfold smallI
  rw [Nat.blt_eq]
  omega
theorem big_of {i : Int} (h1 : -100000 ≤ i) (h2 : i ≤ 100000) : i.natAbs < big9 := by
  have : (100001 : Nat) ≤ 2 ^ 17 := by decide
  have h3 : i.natAbs < 2 ^ 17 := by omega
  exact Nat.lt_of_lt_of_le h3 (Nat.pow_le_pow_right (by decide) (by decide))
theorem law_of {A B C D : Int} (hA : -45 ≤ A ∧ A ≤ 45) (hB : 1 ≤ B ∧ B ≤ 40) (hC : -45 ≤ C ∧ C ≤ 45) (hD : 1 ≤ D ∧ D ≤ 40) : ∃ t b u c g h, Law A B C D t b u c g h := by
  have one : ∀ A B : Int, -45 ≤ A ∧ A ≤ 45 → 1 ≤ B ∧ B ≤ 40 → ∃ g t b : Int, 0 < g ∧ lowP A B = fr t b ∧ A = g * t ∧ B = g * b ∧ Sm t b := fun A B hA hB => by
    obtain ⟨g, t, b, hg, e, h1, h2, e1, e2, h3⟩ := lowP_of (t := A) (b := B) hB.1
    have hb : b.natAbs ≤ 40 := by omega
    have ht : t.natAbs ≤ 45 := by
      have h4 : t.natAbs ≤ A.natAbs := by
        rw [e1, Int.natAbs_mul]
        exact Nat.le_mul_of_pos_left _ (by omega)
      omega
    exact ⟨g, t, b, hg, e, e1, e2, ⟨h1, h2, big_of (by omega) (by omega)⟩, small_of (by omega) (by omega), small_of (by omega) (by omega)⟩
  obtain ⟨g, t, b, hg, l1, e1, e2, s⟩ := one A B hA hB
  obtain ⟨h, u, c, hh, l2, e3, e4, r⟩ := one C D hC hD
  exact ⟨t, b, u, c, g, h, e1, e2, e3, e4, hg, hh, s, r, hA, hB, hC, hD, l1, l2⟩
section
variable {A B C D t b u c g h : Int} (w : Law A B C D t b u c g h) {x0 x1 x2 x3 x4 x5 x6 x7 x14 x15 x16 x17 x18 : Sl}
abbrev env (x0 x1 x2 x3 x4 x5 x6 x7 : Sl) (A B C D : Int) (one two : PyData) (x14 x15 x16 x17 x18 : Sl) : DL.Env := [x0, x1, x2, x3, x4, x5, x6, x7, .sh (.int A), .sh (.int B), .sh (.int C), .sh (.int D), .sh one, .sh two, x14, x15, x16, x17, x18]
include w
theorem lowAB {d : Nat} : cl (d + 1) 18 [.int A, .int B] = .ok (fr t b) := by
  have := w.B1
  rw [low_ (by omega) (big_of (by omega) (by omega)), ← w.low1]
  exact congrArg R.ok (if_neg (by omega))
theorem lowCD {d : Nat} : cl (d + 1) 18 [.int C, .int D] = .ok (fr u c) := by
  have := w.D1
  rw [low_ (by omega) (big_of (by omega) (by omega)), ← w.low2]
  exact congrArg R.ok (if_neg (by omega))
theorem st3 : exec (cl 5) mt g3 (env x0 x1 x2 x3 x4 x5 x6 x7 A B C D (fr t b) (fr u c) x14 x15 x16 x17 x18) = .ok (.next (env x0 x1 x2 x3 x4 x5 x6 x7 A B C D (fr t b) (fr u c) x14 x15 x16 x17 x18)) := by
  have hB := w.B1
  have hA := w.A1
  have r1 : cl 5 2 [.int A, .int B] = .ok (fr t b) := by
    rw [ratio_ (d := 3) (by omega) (big_of (by omega) (by omega)), ← w.low1]
    exact congrArg R.ok (if_neg (by omega))
  have r2 : cl 5 2 [.int (-A), .int (-B)] = .ok (fr t b) := by
    rw [ratio_ (d := 3) (by omega) (big_of (by omega) (by omega)), ← w.low1]
    have e : lowQ (-A) (-B) = lowP (-(-A)) (-(-B)) := if_pos (by omega)
    rw [e, Int.neg_neg, Int.neg_neg]
  have r3 : cl 5 3 [fr (2 * A) 2] = .ok (.bool false) := by
    rw [isr (d := 3) (big_of (by omega) (by omega))]
    have e : Int.gcd (2 * A) 2 = 2 := by
      have := Int.gcd_mul_left 2 A 1
      simpa using this
    rw [e]
    rfl
  have r4 := ratio1 (d := 3) (t := A)
  have r5 := isr_ (d := 3) w.s.fr
  have m2 : binD .mul (.int 2) (.int A) = .ok (.int (2 * A)) := mulS (by decide)
  simp [g3, env, DL.exec, ev, sv, bok, nok, tb, ut, cd, r1, sbI, r2, r4, r5, eqF, m2, r3]
end
end K00
namespace K00
open PySem PySem.Spec PyProof.Rows L2 DL
theorem lowQ_scale {k t b : Int} (hk : 0 < k) : lowQ (k * t) (k * b) = lowQ t b := by
  unfold lowQ
  have e1 : (k * b < 0) ↔ b < 0 := by
    constructor
    · intro h
      rcases Int.lt_or_le b 0 with z | z
      · exact z
      · have := Int.mul_nonneg (show 0 ≤ k by omega) z
        omega
    · intro h
      have := Int.mul_neg_of_pos_of_neg hk h
      exact this
  by_cases h : b < 0
  · rw [if_pos (e1.mpr h), if_pos h, show -(k * t) = k * -t by rw [Int.mul_neg], show -(k * b) = k * -b by rw [Int.mul_neg], lowP_scale hk]
  · rw [if_neg (fun z => h (e1.mp z)), if_neg h, lowP_scale hk]
theorem absM {x y : Int} {m n : Nat} (h1 : x.natAbs ≤ m) (h2 : y.natAbs ≤ n) : (x * y).natAbs ≤ m * n := by
  rw [Int.natAbs_mul]
  exact Nat.mul_le_mul h1 h2
section
variable {A B C D t b u c g h : Int} (w : Law A B C D t b u c g h) {x0 x1 x2 x3 x4 x5 x6 x7 x14 x15 x16 x17 x18 : Sl}
include w
theorem bnds : t.natAbs ≤ 45 ∧ b.natAbs ≤ 40 ∧ u.natAbs ≤ 45 ∧ c.natAbs ≤ 40 := by
  have f : ∀ k x X : Int, 0 < k → X = k * x → x.natAbs ≤ X.natAbs := fun k x X hk e => by
    rw [e, Int.natAbs_mul]
    exact Nat.le_mul_of_pos_left _ (by omega)
  have h1 := f g t A w.pg w.eA
  have h2 := f g b B w.pg w.eB
  have h3 := f h u C w.ph w.eC
  have h4 := f h c D w.ph w.eD
  have := w.A1; have := w.B1; have := w.C1; have := w.D1
  omega
theorem gh : 0 < g * h := Int.mul_pos w.pg w.ph
/-- the program's ratio of the small parts, the law's of the given ones -/
theorem both {X Y x y : Int} (hX : X = (g * h) * x) (hY : Y = (g * h) * y) (hy : y ≠ 0) (h1 : y.natAbs ≤ 100000) (h2 : Y.natAbs ≤ 100000) {d e : Nat} : ∃ p q, cl (d + 2) 2 [.int x, .int y] = .ok (fr p q) ∧ cl (e + 1) 18 [.int X, .int Y] = .ok (fr p q) := by
  have hn : Y ≠ 0 := by
    rw [hY]
    exact Int.mul_ne_zero (by have := gh w; omega) hy
  have ex : ∃ p q, lowQ x y = fr p q := by
    unfold lowQ lowP
    split <;> exact ⟨_, _, rfl⟩
  obtain ⟨p, q, eq⟩ := ex
  refine ⟨p, q, ?_, ?_⟩
  · rw [ratio_ hy (big_of (by omega) (by omega)), eq]
  · rw [low_ hn (big_of (by omega) (by omega)), hX, hY, lowQ_scale (gh w), eq]
theorem st4 : exec (cl 5) mt g4 (env x0 x1 x2 x3 x4 x5 x6 x7 A B C D (fr t b) (fr u c) x14 x15 x16 x17 x18) = .ok (.next (env x0 x1 x2 x3 x4 x5 x6 x7 A B C D (fr t b) (fr u c) x14 x15 x16 x17 x18)) := by
  obtain ⟨b1, b2, b3, b4⟩ := bnds w
  have hb := w.s.fr.pos
  have hc := w.r.fr.pos
  have hB := w.B1
  have hD := w.D1
  have hA := w.A1
  have hC := w.C1
  have nz : b * c ≠ 0 := Int.mul_ne_zero (by omega) (by omega)
  have m1 : (b * c).natAbs ≤ 100000 := Nat.le_trans (absM (m := 40) (n := 40) (by omega) (by omega)) (by decide)
  have m2 : (B * D).natAbs ≤ 100000 := Nat.le_trans (absM (m := 40) (n := 40) (by omega) (by omega)) (by decide)
  have eY : B * D = g * h * (b * c) := by rw [w.eB, w.eD]; ac_rfl
  have e1 : A * D + C * B = g * h * (t * c + u * b) := by rw [w.eA, w.eB, w.eC, w.eD, Int.mul_add]; ac_rfl
  have e2 : A * D - C * B = g * h * (t * c - u * b) := by
    rw [w.eA, w.eB, w.eC, w.eD, Int.mul_sub]
    have z1 : g * t * (h * c) = g * h * (t * c) := by ac_rfl
    have z2 : h * u * (g * b) = g * h * (u * b) := by ac_rfl
    rw [z1, z2]
  have e3 : A * C = g * h * (t * u) := by rw [w.eA, w.eC]; ac_rfl
  obtain ⟨p1, q1, r1, r2⟩ := both w e1 eY nz m1 m2 (d := 2) (e := 4)
  obtain ⟨p2, q2, r3, r4⟩ := both w e2 eY nz m1 m2 (d := 2) (e := 4)
  obtain ⟨p3, q3, r5, r6⟩ := both w e3 eY nz m1 m2 (d := 2) (e := 4)
  have a1 := add_ (d := 4) (t := t) (b := b) w.r.st w.r.sb
  have a2 := less_ (d := 4) (t := t) (b := b) w.r.st w.r.sb
  have a3 := times_ (d := 4) (t := t) (b := b) w.r.st w.r.sb
  rw [r1] at a1
  rw [r3] at a2
  rw [r5] at a3
  have n1 : smallI D = true := small_of (by omega) (by omega)
  have n2 : smallI B = true := small_of (by omega) (by omega)
  have n3 : smallI C = true := small_of (by omega) (by omega)
  simp [g4, env, DL.exec, ev, sv, bok, nok, tb, ut, cd, a1, a2, a3, mulT n1, mulT n2, mulT n3, adI, sbI, r2, r4, r6, eqF]
theorem st5 : exec (cl 5) mt g5 (env x0 x1 x2 x3 x4 x5 x6 x7 A B C D (fr t b) (fr u c) x14 x15 x16 x17 x18) = .ok (.next (env x0 x1 x2 x3 x4 x5 x6 x7 A B C D (fr t b) (fr u c) x14 x15 x16 x17 x18)) := by
  obtain ⟨b1, b2, b3, b4⟩ := bnds w
  have hb := w.s.fr.pos
  have hB := w.B1
  have hD := w.D1
  have hA := w.A1
  have hC := w.C1
  by_cases c0 : C = 0
  · simp [g5, env, DL.exec, ev, sv, bok, nok, tb, c0, neI]
  · have hu : u ≠ 0 := fun z => c0 (by rw [w.eC, z, Int.mul_zero])
    have nz : b * u ≠ 0 := Int.mul_ne_zero (by omega) hu
    have m1 : (b * u).natAbs ≤ 100000 := Nat.le_trans (absM (m := 40) (n := 45) (by omega) (by omega)) (by decide)
    have m2 : (B * C).natAbs ≤ 100000 := Nat.le_trans (absM (m := 40) (n := 45) (by omega) (by omega)) (by decide)
    have eY : B * C = g * h * (b * u) := by rw [w.eB, w.eC]; ac_rfl
    have e1 : A * D = g * h * (t * c) := by rw [w.eA, w.eD]; ac_rfl
    obtain ⟨p1, q1, r1, r2⟩ := both w e1 eY nz m1 m2 (d := 2) (e := 4)
    have a1 := over_ (d := 4) (t := t) (b := b) w.r.st w.r.sb hu
    rw [r1] at a1
    have n1 : smallI D = true := small_of (by omega) (by omega)
    have n3 : smallI C = true := small_of (by omega) (by omega)
    simp [g5, env, DL.exec, ev, sv, bok, nok, tb, ut, cd, c0, neI, a1, mulT n1, mulT n3, r2, eqF]
end
end K00
namespace K00
open PySem PySem.Spec PyProof.Rows L2 DL
section
variable {A B C D t b u c g h : Int} (w : Law A B C D t b u c g h) {L Nn : PyData}
theorem mdI {i j : Int} (h : 0 < j) : binD .mod (.int i) (.int j) = .ok (.int (i % j)) := if_pos h
theorem st6 {one two : PyData} {v : Int} (h4 : subD Nn (.int 4) = .ok (.int v)) : exec (cl 5) mt g6 (env (.sh L) (.sh Nn) .un .un .un .un .un .un A B C D one two .un .un .un .un .un) =
    .ok (.next (env (.sh L) (.sh Nn) (.sh (.int (v % 12))) .un .un .un .un .un A B C D one two .un .un .un .un .un)) := by
  have m : binD .mod (.int v) (.int 12) = .ok (.int (v % 12)) := mdI (by decide)
  simp [g6, env, DL.exec, ev, sv, bok, hideAt, give, h4, m]
theorem st7 {one two : PyData} {N : Int} : exec (cl 5) mt g7 (env (.sh L) (.sh Nn) (.sh (.int N)) .un .un .un .un .un A B C D one two .un .un .un .un .un) =
    .ok (.next (env (.sh L) (.sh Nn) (.sh (.int N)) .un .un .un .un .un A B C D one two (.sh (.int 1)) (.sh (.int 1)) .un .un .un)) := by
  simp [g7, env, DL.exec, ev, sv, bok, cd, hideAt, give, unpZ, bindT, bindMany]
def topB : IS := .par (some []) [14, 15] (.econs (.bin .mul (.var 14) (.sub (.var 12) (.int 0))) (.econs (.bin .mul (.var 15) (.sub (.var 12) (.int 1))) (.enil))) (.done)
include w in
theorem top_loop {N : Int} {two : PyData} : ∀ (xs : List PyData) (k : Nat) (s : Sl), (s = .un ∨ ∃ d, s = .sh d) → ∃ s', (s' = .un ∨ ∃ d, s' = .sh d) ∧ forGo (.one 3) (exec (cl 5) mt topB) xs (env (.sh L) (.sh Nn) (.sh (.int N)) s .un .un .un .un A B C D (fr t b) two (.sh (.int (t ^ k))) (.sh (.int (b ^ k))) .un .un .un) =
    .ok (.next (env (.sh L) (.sh Nn) (.sh (.int N)) s' .un .un .un .un A B C D (fr t b) two (.sh (.int (t ^ (k + xs.length)))) (.sh (.int (b ^ (k + xs.length)))) .un .un .un))
  | [], k, s, hs => ⟨s, hs, rfl⟩
  | x :: xs, k, s, hs => by
    obtain ⟨s', hs', e⟩ := top_loop xs (k + 1) (.sh x) (.inr ⟨x, rfl⟩)
    refine ⟨s', hs', ?_⟩
    have q : exec (cl 5) mt topB (env (.sh L) (.sh Nn) (.sh (.int N)) (.sh x) .un .un .un .un A B C D (fr t b) two (.sh (.int (t ^ k))) (.sh (.int (b ^ k))) .un .un .un) =
        .ok (.next (env (.sh L) (.sh Nn) (.sh (.int N)) (.sh x) .un .un .un .un A B C D (fr t b) two (.sh (.int (t ^ (k + 1)))) (.sh (.int (b ^ (k + 1)))) .un .un .un)) := by
      simp [topB, env, DL.exec, ev, sv, bok, cd, hideAt, give, parZ, setMany, p0, p1, mulT w.s.st, mulT w.s.sb, Int.pow_succ]
    unfold forGo
    show (exec (cl 5) mt topB (env (.sh L) (.sh Nn) (.sh (.int N)) (.sh x) .un .un .un .un A B C D (fr t b) two (.sh (.int (t ^ k))) (.sh (.int (b ^ k))) .un .un .un)).bind _ = _
    rw [q, List.length_cons, show k + (xs.length + 1) = k + 1 + xs.length by omega]
    exact e
include w in
theorem st8 {n : Nat} (hn : n ≤ 50) {two : PyData} : ∃ s, (s = .un ∨ ∃ d, s = .sh d) ∧ exec (cl 5) mt g8 (env (.sh L) (.sh Nn) (.sh (.int n)) .un .un .un .un .un A B C D (fr t b) two (.sh (.int 1)) (.sh (.int 1)) .un .un .un) =
    .ok (.next (env (.sh L) (.sh Nn) (.sh (.int n)) s .un .un .un .un A B C D (fr t b) two (.sh (.int (t ^ n))) (.sh (.int (b ^ n))) .un .un .un)) := by
  obtain ⟨s, hs, e⟩ := top_loop w (L := L) (Nn := Nn) (N := n) (two := two) (rng 0 n) 0 .un (.inl rfl)
  refine ⟨s, hs, ?_⟩
  have hb : bnd (n : Int) = true := by
    unfold bnd
    rw [Nat.blt_eq]
    omega
  rw [rng_length, Nat.zero_add] at e
  show exec (cl 5) mt (.for_ (.one 3) [] (.ir1 (.var 2)) topB (.done)) _ = _
  simp [env, DL.exec, ev, sv, bok, hideAt, give, forD, r1D, hb]
  simp only [Int.pow_zero, env] at e
  rw [e]
  rfl
include w in
theorem st9 {n : Nat} (hn : n ≤ 50) {two : PyData} {s x4 x5 x6 x7 x16 x17 x18 : Sl} : exec (cl 5) mt g9 (env (.sh L) (.sh Nn) (.sh (.int n)) s x4 x5 x6 x7 A B C D (fr t b) two (.sh (.int (t ^ n))) (.sh (.int (b ^ n))) x16 x17 x18) =
    .ok (.next (env (.sh L) (.sh Nn) (.sh (.int n)) s x4 x5 x6 x7 A B C D (fr t b) two (.sh (.int (t ^ n))) (.sh (.int (b ^ n))) x16 x17 x18)) := by
  obtain ⟨f, e1, hp⟩ := power_ (d := 1) w.s hn
  have e2 := pw_low (d := 4) w.s.fr.pos w.s.sb hn hp
  have e3 := size_ (d := 1) w.s.fr
  obtain ⟨G, x, y, _, rfl, _⟩ := hp
  simp [g9, env, DL.exec, ev, sv, bok, nok, tb, ut, cd, e1, e2, e3, p0, p1, abI, eqF]
end
end K00
namespace K00
open PySem PySem.Spec PyProof.Rows L2 DL
theorem shape_all : ∀ {ys : List PyData}, (∀ y ∈ ys, isSm y) → PyData.canLayAll0 ys = true ∧ PyData.depthAll ys ≤ 10
  | [], _ => ⟨by simp [PyData.canLayAll0], by simp [PyData.depthAll]⟩
  | y :: ys, h => by
    obtain ⟨t, b, rfl, _⟩ := h y List.mem_cons_self
    obtain ⟨h1, h2⟩ := shape_all (ys := ys) fun z hz => h z (List.mem_cons_of_mem _ hz)
    refine ⟨?_, ?_⟩
    · simp only [PyData.canLayAll0, h1, Bool.and_true]
      rfl
    · have e : PyData.depth (fr t b) ≤ 10 := by simp [PyData.depth, PyData.depthAll]
      simp only [PyData.depthAll]
      omega
theorem eqL {ys : List PyData} (h : ∀ y ∈ ys, isSm y) : cmpD .eq (.list ys) (.list []) = .ok ys.isEmpty := by
  obtain ⟨h1, h2⟩ := shape_all h
  have s1 : SeqAt.shaped (.list ys) = true := by
    have d1 : (PyData.list ys).depth ≤ 64 := by
      simp only [PyData.depth]
      omega
    have d2 : (PyData.list ys).canLay0 = true := by simp only [PyData.canLay0, h1]
    unfold SeqAt.shaped
    rw [d2, decide_eq_true d1]
    rfl
  have s2 : SeqAt.shaped (.list []) = true := by rfl
  have e : PyData.eqv (.list ys) (.list []) = ys.isEmpty := by
    cases ys <;> simp [PyData.eqv, PyData.eqvAll]
  simp only [cmpD, eqD, s1, s2, Bool.and_self, if_true, e]
theorem lc_filter {fc fe : DL.Env → R PyData} {ρ : DL.Env} {i : Nat} {p : PyData → Bool} : ∀ {xs : List PyData}, (∀ d ∈ xs, (fc (ρ.set i (.sh d))).bind truth = .ok (p d)) → (∀ d ∈ xs, fe (ρ.set i (.sh d)) = .ok d) → lcGo (.one i) fc fe ρ xs = .ok (xs.filter p)
  | [], _, _ => rfl
  | d :: ds, h1, h2 => by
    have ih := lc_filter (xs := ds) (fun x hx => h1 x (List.mem_cons_of_mem _ hx)) fun x hx => h2 x (List.mem_cons_of_mem _ hx)
    unfold lcGo
    dsimp only [bindT]
    rw [h1 d List.mem_cons_self, ih]
    cases c : p d with
    | true =>
      dsimp only
      rw [h2 d List.mem_cons_self, List.filter_cons, if_pos c]
    | false =>
      dsimp only
      rw [List.filter_cons, if_neg (by rw [c]; exact Bool.false_ne_true)]
section
variable {A B C D : Int} {L Nn one two : PyData} {s2 s3 s5 s6 s7 s14 s15 s16 s17 s18 : Sl} {xs : List PyData}
abbrev inL : IE := .lc [18] [("other", 18)] (.one 18) (.iseq (.var 4)) (.call 21 (.econs (.var 18) (.econs (.var 17) (.enil)))) (.var 18)
abbrev inH : IE := .lc [18] [("other", 18)] (.one 18) (.iseq (.var 4)) (.call 21 (.econs (.var 17) (.econs (.var 18) (.enil)))) (.var 18)
theorem big_len (h : xs.length ≤ 50) : xs.length ≤ big := Nat.le_trans h (by decide)
theorem inner {r : PyData} (hl : xs.length ≤ 50) (hx : ∀ x ∈ xs, isSm x) (hr : isSm r) :
    ev (cl 5) inL (env (.sh L) (.sh Nn) s2 s3 (.sh (.tuple xs)) s5 s6 s7 A B C D one two s14 s15 s16 (.sh r) s18) = .ok (.list (xs.filter fun o => undP o r)) ∧
    ev (cl 5) inH (env (.sh L) (.sh Nn) s2 s3 (.sh (.tuple xs)) s5 s6 s7 A B C D one two s14 s15 s16 (.sh r) s18) = .ok (.list (xs.filter fun o => undP r o)) := by
  have hb := big_len hl
  constructor
  · simp only [ev, lcD, env, sv, bok, seqOf, List.getElem?_cons_zero, List.getElem?_cons_succ, hb, if_true, wipeE, List.set_cons_zero, List.set_cons_succ]
    rw [lc_filter (p := fun o => undP o r) (fun d hd => by simp [sv, bok, ut, cd, (undC (d := 4) (hx d hd) hr).2, tb]) (fun d hd => by simp [sv])]
  · simp only [ev, lcD, env, sv, bok, seqOf, List.getElem?_cons_zero, List.getElem?_cons_succ, hb, if_true, wipeE, List.set_cons_zero, List.set_cons_succ]
    rw [lc_filter (p := fun o => undP r o) (fun d hd => by simp [sv, bok, ut, cd, (undC (d := 4) hr (hx d hd)).2, tb]) (fun d hd => by simp [sv])]
theorem fil_sm {p : PyData → Bool} (hx : ∀ x ∈ xs, isSm x) : ∀ y ∈ xs.filter p, isSm y := fun y hy => hx y (List.mem_filter.mp hy).1
theorem outer (hl : xs.length ≤ 50) (hx : ∀ x ∈ xs, isSm x) :
    ev (cl 5) (.lc [17] [("row", 17)] (.one 17) (.iseq (.var 4)) (.cmp .eq inL (.lst (.enil))) (.var 17)) (env (.sh L) (.sh Nn) s2 s3 (.sh (.tuple xs)) s5 s6 s7 A B C D one two s14 s15 s16 s17 s18) = .ok (.list (xs.filter fun r => (xs.filter fun o => undP o r).isEmpty)) ∧
    ev (cl 5) (.lc [17] [("row", 17)] (.one 17) (.iseq (.var 4)) (.cmp .eq inH (.lst (.enil))) (.var 17)) (env (.sh L) (.sh Nn) s2 s3 (.sh (.tuple xs)) s5 s6 s7 A B C D one two s14 s15 s16 s17 s18) = .ok (.list (xs.filter fun r => (xs.filter fun o => undP r o).isEmpty)) := by
  have hb := big_len hl
  have em : ∀ ρ : DL.Env, ev (cl 5) (.lst .enil) ρ = .ok (.list []) := fun ρ => by simp [ev, bok, lstD]
  constructor
  · rw [ev, lcD]
    have e0 : ev (cl 5) (.iseq (.var 4)) (env (.sh L) (.sh Nn) s2 s3 (.sh (.tuple xs)) s5 s6 s7 A B C D one two s14 s15 s16 s17 s18) = .ok (.list xs) := by simp [ev, sv, bok, seqOf]
    rw [e0, bok]
    dsimp only
    rw [if_pos hb, lc_filter (p := fun r => (xs.filter fun o => undP o r).isEmpty) (fun d hd => by
      show (ev (cl 5) (.cmp .eq inL (.lst .enil)) (env (.sh L) (.sh Nn) s2 s3 (.sh (.tuple xs)) s5 s6 s7 A B C D one two s14 s15 s16 (.sh d) s18)).bind truth = _
      rw [ev, (inner hl hx (hx d hd)).1, bok, em, bok, eqL (fil_sm hx), bok, bok, tb]) (fun d hd => by simp [ev, sv, wipeE, env])]
  · rw [ev, lcD]
    have e0 : ev (cl 5) (.iseq (.var 4)) (env (.sh L) (.sh Nn) s2 s3 (.sh (.tuple xs)) s5 s6 s7 A B C D one two s14 s15 s16 s17 s18) = .ok (.list xs) := by simp [ev, sv, bok, seqOf]
    rw [e0, bok]
    dsimp only
    rw [if_pos hb, lc_filter (p := fun r => (xs.filter fun o => undP r o).isEmpty) (fun d hd => by
      show (ev (cl 5) (.cmp .eq inH (.lst .enil)) (env (.sh L) (.sh Nn) s2 s3 (.sh (.tuple xs)) s5 s6 s7 A B C D one two s14 s15 s16 (.sh d) s18)).bind truth = _
      rw [ev, (inner hl hx (hx d hd)).2, bok, em, bok, eqL (fil_sm hx), bok, bok, tb]) (fun d hd => by simp [ev, sv, wipeE, env])]
end
end K00
namespace K00
open PySem PySem.Spec PyProof.Rows L2 DL
theorem sm_low {Y Z : Int} (hY : -45 ≤ Y ∧ Y ≤ 45) (hZ : 1 ≤ Z ∧ Z ≤ 40) {d : Nat} : ∃ r, cl (d + 1) 18 [.int Y, .int Z] = .ok r ∧ isSm r := by
  obtain ⟨t, b, u, c, g, h, w⟩ := law_of hY hZ hY hZ
  exact ⟨_, lowAB w, t, b, rfl, w.s⟩
section
variable {A B C D : Int} {L Nn one two : PyData} {s3 : Sl}
theorem st10 {y0 y1 y2 y3 z0 z1 z2 z3 N P Q : Int} (h0 : subD Nn (.int 5) = .ok (.int y0)) (h1 : subD Nn (.int 6) = .ok (.int y1)) (h2 : subD Nn (.int 7) = .ok (.int y2)) (h3 : subD Nn (.int 8) = .ok (.int y3))
    (k0 : subD Nn (.int 10) = .ok (.int z0)) (k1 : subD Nn (.int 11) = .ok (.int z1)) (k2 : subD Nn (.int 12) = .ok (.int z2)) (k3 : subD Nn (.int 13) = .ok (.int z3)) (hs : s3 = .un ∨ ∃ d, s3 = .sh d) :
    ∃ r0 r1 r2 r3, isSm r0 ∧ isSm r1 ∧ isSm r2 ∧ isSm r3 ∧ exec (cl 5) mt g10 (env (.sh L) (.sh Nn) (.sh (.int N)) s3 .un .un .un .un A B C D one two (.sh (.int P)) (.sh (.int Q)) .un .un .un) =
      .ok (.next (env (.sh L) (.sh Nn) (.sh (.int N)) s3 (.sh (.tuple [r0, r1, r2, r3])) .un .un .un A B C D one two (.sh (.int P)) (.sh (.int Q)) .un .un .un)) := by
  have a60 : ∀ y : Int, -45 ≤ y % 60 - 30 ∧ y % 60 - 30 ≤ 45 := fun y => by omega
  have a9 : ∀ z : Int, 1 ≤ z % 9 + 1 ∧ z % 9 + 1 ≤ 40 := fun z => by omega
  obtain ⟨r0, e0, q0⟩ := sm_low (a60 y0) (a9 z0) (d := 4)
  obtain ⟨r1, e1, q1⟩ := sm_low (a60 y1) (a9 z1) (d := 4)
  obtain ⟨r2, e2, q2⟩ := sm_low (a60 y2) (a9 z2) (d := 4)
  obtain ⟨r3, e3, q3⟩ := sm_low (a60 y3) (a9 z3) (d := 4)
  refine ⟨r0, r1, r2, r3, q0, q1, q2, q3, ?_⟩
  have hr : rng 0 4 = [.int 0, .int 1, .int 2, .int 3] := by rfl
  have hb : bnd 4 = true := by decide
  have hg : (4 : Nat) ≤ big := by decide
  have m60 : ∀ y : Int, binD .mod (.int y) (.int 60) = .ok (.int (y % 60)) := fun y => mdI (by decide)
  have m9 : ∀ y : Int, binD .mod (.int y) (.int 9) = .ok (.int (y % 9)) := fun y => mdI (by decide)
  rcases hs with rfl | ⟨d, rfl⟩ <;>
  simp [g10, env, DL.exec, ev, sv, bok, hideAt, give, lcD, r1D, hr, hb, hg, wipeE, lcGo, bindT, tb, ut, cd, adI, sbI, m60, m9, h0, h1, h2, h3, k0, k1, k2, k3, e0, e1, e2, e3, bltD]
theorem st11 {N P Q : Int} {x : PyData} {xs : List PyData} (hl : (x :: xs).length ≤ 50) (hx : ∀ y ∈ x :: xs, isSm y) (hs : s3 = .un ∨ ∃ d, s3 = .sh d) :
    exec (cl 5) mt g11 (env (.sh L) (.sh Nn) (.sh (.int N)) s3 (.sh (.tuple (x :: xs))) .un .un .un A B C D one two (.sh (.int P)) (.sh (.int Q)) .un .un .un) =
      .ok (.next (env (.sh L) (.sh Nn) (.sh (.int N)) s3 (.sh (.tuple (x :: xs))) (.sh ((x :: xs).foldl (fun f v => if undP v f then v else f) x)) .un .un A B C D one two (.sh (.int P)) (.sh (.int Q)) .un .un .un)) := by
  obtain ⟨r, e⟩ := und_low hx
  have z : ∀ (m : PyData) (r : List PyData), subD (.list (m :: r)) (.int 0) = .ok m := fun m r => rfl
  rcases hs with rfl | ⟨d, rfl⟩
  · have o := (outer (A := A) (B := B) (C := C) (D := D) (L := L) (Nn := Nn) (one := one) (two := two) (s2 := .sh (.int N)) (s3 := .un) (s5 := .un) (s6 := .un) (s7 := .un) (s14 := .sh (.int P)) (s15 := .sh (.int Q)) (s16 := .un) (s17 := .un) (s18 := .un) hl hx).1
    rw [e] at o
    show (((ev (cl 5) _ (env (.sh L) (.sh Nn) (.sh (.int N)) .un (.sh (.tuple (x :: xs))) .un .un .un A B C D one two (.sh (.int P)) (.sh (.int Q)) .un .un .un)).bind fun x => (ev (cl 5) (.int 0) (env (.sh L) (.sh Nn) (.sh (.int N)) .un (.sh (.tuple (x :: xs))) .un .un .un A B C D one two (.sh (.int P)) (.sh (.int Q)) .un .un .un)).bind fun y => subD x y)).bind _ = _
    rw [o]
    rfl
  · have o := (outer (A := A) (B := B) (C := C) (D := D) (L := L) (Nn := Nn) (one := one) (two := two) (s2 := .sh (.int N)) (s3 := .sh d) (s5 := .un) (s6 := .un) (s7 := .un) (s14 := .sh (.int P)) (s15 := .sh (.int Q)) (s16 := .un) (s17 := .un) (s18 := .un) hl hx).1
    rw [e] at o
    show (((ev (cl 5) _ (env (.sh L) (.sh Nn) (.sh (.int N)) (.sh d) (.sh (.tuple (x :: xs))) .un .un .un A B C D one two (.sh (.int P)) (.sh (.int Q)) .un .un .un)).bind fun x => (ev (cl 5) (.int 0) (env (.sh L) (.sh Nn) (.sh (.int N)) (.sh d) (.sh (.tuple (x :: xs))) .un .un .un A B C D one two (.sh (.int P)) (.sh (.int Q)) .un .un .un)).bind fun y => subD x y)).bind _ = _
    rw [o]
    rfl
end
end K00
namespace K00
open PySem PySem.Spec PyProof.Rows L2 DL
abbrev lowF (x : PyData) (xs : List PyData) : PyData := (x :: xs).foldl (fun f v => if undP v f then v else f) x
abbrev highF (x : PyData) (xs : List PyData) : PyData := (x :: xs).foldl (fun f v => if undP f v then v else f) x
theorem fold_sm {p : PyData → PyData → Bool} : ∀ {ys : List PyData} {f : PyData}, isSm f → (∀ y ∈ ys, isSm y) → isSm (ys.foldl (fun f v => if p f v then v else f) f)
  | [], f, hf, _ => hf
  | y :: ys, f, hf, h => by
    rw [List.foldl_cons]
    refine fold_sm ?_ fun z hz => h z (List.mem_cons_of_mem _ hz)
    split
    · exact h y List.mem_cons_self
    · exact hf
section
variable {A B C D : Int} {L Nn one two : PyData} {s3 : Sl}
theorem st12 {N P Q : Int} {x lo : PyData} {xs : List PyData} (hl : (x :: xs).length ≤ 50) (hx : ∀ y ∈ x :: xs, isSm y) (hs : s3 = .un ∨ ∃ d, s3 = .sh d) :
    exec (cl 5) mt g12 (env (.sh L) (.sh Nn) (.sh (.int N)) s3 (.sh (.tuple (x :: xs))) (.sh lo) .un .un A B C D one two (.sh (.int P)) (.sh (.int Q)) .un .un .un) =
      .ok (.next (env (.sh L) (.sh Nn) (.sh (.int N)) s3 (.sh (.tuple (x :: xs))) (.sh lo) (.sh (highF x xs)) .un A B C D one two (.sh (.int P)) (.sh (.int Q)) .un .un .un)) := by
  obtain ⟨r, e⟩ := und_high hx
  rcases hs with rfl | ⟨d, rfl⟩
  · have o := (outer (A := A) (B := B) (C := C) (D := D) (L := L) (Nn := Nn) (one := one) (two := two) (s2 := .sh (.int N)) (s3 := .un) (s5 := .sh lo) (s6 := .un) (s7 := .un) (s14 := .sh (.int P)) (s15 := .sh (.int Q)) (s16 := .un) (s17 := .un) (s18 := .un) hl hx).2
    rw [e] at o
    show (((ev (cl 5) _ (env (.sh L) (.sh Nn) (.sh (.int N)) .un (.sh (.tuple (x :: xs))) (.sh lo) .un .un A B C D one two (.sh (.int P)) (.sh (.int Q)) .un .un .un)).bind fun x => (ev (cl 5) (.int 0) (env (.sh L) (.sh Nn) (.sh (.int N)) .un (.sh (.tuple (x :: xs))) (.sh lo) .un .un A B C D one two (.sh (.int P)) (.sh (.int Q)) .un .un .un)).bind fun y => subD x y)).bind _ = _
    rw [o]
    rfl
  · have o := (outer (A := A) (B := B) (C := C) (D := D) (L := L) (Nn := Nn) (one := one) (two := two) (s2 := .sh (.int N)) (s3 := .sh d) (s5 := .sh lo) (s6 := .un) (s7 := .un) (s14 := .sh (.int P)) (s15 := .sh (.int Q)) (s16 := .un) (s17 := .un) (s18 := .un) hl hx).2
    rw [e] at o
    show (((ev (cl 5) _ (env (.sh L) (.sh Nn) (.sh (.int N)) (.sh d) (.sh (.tuple (x :: xs))) (.sh lo) .un .un A B C D one two (.sh (.int P)) (.sh (.int Q)) .un .un .un)).bind fun x => (ev (cl 5) (.int 0) (env (.sh L) (.sh Nn) (.sh (.int N)) (.sh d) (.sh (.tuple (x :: xs))) (.sh lo) .un .un A B C D one two (.sh (.int P)) (.sh (.int Q)) .un .un .un)).bind fun y => subD x y)).bind _ = _
    rw [o]
    rfl
theorem addP_fr {f v : PyData} (hf : ∃ x y, f = fr x y) (hv : isSm v) : ∃ x y, addP f v = fr x y := by
  obtain ⟨x, y, rfl⟩ := hf
  obtain ⟨u, c, rfl, _⟩ := hv
  exact ⟨_, _, rfl⟩
theorem sum_fr : ∀ {xs : List PyData} {f : PyData}, (∃ x y, f = fr x y) → (∀ v ∈ xs, isSm v) → ∃ x y, xs.foldl addP f = fr x y
  | [], f, h, _ => h
  | v :: xs, f, h, hv => by
    rw [List.foldl_cons]
    exact sum_fr (addP_fr h (hv v List.mem_cons_self)) fun z hz => hv z (List.mem_cons_of_mem _ hz)
theorem st13 {s2 s7 s14 s15 s16 s17 s18 : Sl} {x : PyData} {xs : List PyData} (hl : (x :: xs).length ≤ 50) (hx : ∀ y ∈ x :: xs, isSm y) :
    exec (cl 5) mt g13 (env (.sh L) (.sh Nn) s2 s3 (.sh (.tuple (x :: xs))) (.sh (lowF x xs)) (.sh (highF x xs)) s7 A B C D one two s14 s15 s16 s17 s18) =
      .ok (.next (env (.sh L) (.sh Nn) s2 s3 (.sh (.tuple (x :: xs))) (.sh (lowF x xs)) (.sh (highF x xs)) s7 A B C D one two s14 s15 s16 s17 s18)) := by
  have hx0 := hx x List.mem_cons_self
  have e1 := least_ (d := 1) hx
  have e2 := most_ (d := 1) hx
  have e3 := (total_ (d := 1) hx hl).1
  have e4 := (total_ (d := 2) hx hl).2
  have e5 : cl 5 10 [.tuple []] = .ok (fr 0 1) := (total_ (d := 1) (xs := []) (fun z hz => by cases hz) (by decide)).1
  obtain ⟨p1, q1, z1, _⟩ := fold_sm (p := fun f v => undP v f) hx0 hx
  obtain ⟨p2, q2, z2, _⟩ := fold_sm (p := fun f v => undP f v) hx0 hx
  obtain ⟨p3, q3, z3⟩ := sum_fr (xs := x :: xs) (f := fr 0 1) ⟨0, 1, rfl⟩ hx
  have z1 : lowF x xs = fr p1 q1 := z1
  have z2 : highF x xs = fr p2 q2 := z2
  have e1 : cl 5 12 [.tuple (x :: xs)] = .ok (lowF x xs) := e1
  have e2 : cl 5 13 [.tuple (x :: xs)] = .ok (highF x xs) := e2
  rw [z1] at e1 ⊢
  rw [z2] at e2 ⊢
  rw [z3] at e3 e4
  simp only [g13, env, DL.exec, ev, sv, bok, nok, tb, ut, cd, List.getElem?_cons_zero, List.getElem?_cons_succ, e1, e2, e3, e4, e5, eqF, Bool.false_eq_true, if_false]
theorem neB {x : Bool} : cmpD .ne (.bool x) (.bool x) = .ok false := by
  simp only [cmpD, eqD, bok]
  cases x <;> rfl
end
/-- a fraction's text -/
def txt (t b : Int) : R PyData := if b = 1 then bltD .str [.int t] else (bltD .str [.int t]).bind fun x => (binD .add x (.str "/")).bind fun y => (bltD .str [.int b]).bind fun z => binD .add y z
theorem text_ {d : Nat} {t b : Int} (f : Fr t b) : cl (d + 4) 15 [fr t b] = txt t b := by
  show fin (exec (cl (d + 3)) mt b15 (DL.envOf 1 [fr t b])) = _
  unfold txt
  by_cases c : b = 1
  · subst c
    simp [b15, DL.exec, ev, DL.envOf, sv, bok, nok, tb, ut, cd, check_ f, p0, p1, eqI]
    cases bltD .str [.int t] <;> rfl
  · simp [b15, DL.exec, ev, DL.envOf, sv, bok, nok, tb, ut, cd, check_ f, p0, p1, eqI, c]
    cases bltD .str [.int t] with
    | ok x =>
      simp only [bok]
      cases binD .add x (.str "/") with
      | ok y =>
        simp only [bok]
        cases bltD .str [.int b] with
        | ok z =>
          simp only [bok]
          cases binD .add y z <;> rfl
        | _ => rfl
      | _ => rfl
    | _ => rfl
def strB (r : R PyData) : Bool := match r with
  | .ok (.str s) => SeqAt.shaped (.str s) && PyData.eqv (.str s) (.str s)
  | _ => false
theorem txt_all : ((List.range 91).all fun i => (List.range 40).all fun j => strB (txt ((i : Int) - 45) ((j : Int) + 1))) = true := by decide +kernel
theorem txt_ok {t b : Int} (ht : -45 ≤ t ∧ t ≤ 45) (hb : 1 ≤ b ∧ b ≤ 40) : ∃ s, txt t b = .ok (.str s) ∧ cmpD .ne (.str s) (.str s) = .ok false := by
  have h := List.all_eq_true.mp (List.all_eq_true.mp txt_all (t + 45).toNat (List.mem_range.mpr (by omega))) (b - 1).toNat (List.mem_range.mpr (by omega))
  have e1 : (((t + 45).toNat : Nat) : Int) - 45 = t := by omega
  have e2 : (((b - 1).toNat : Nat) : Int) + 1 = b := by omega
  rw [e1, e2] at h
  unfold strB at h
  split at h
  · rename_i s e
    rw [Bool.and_eq_true] at h
    refine ⟨s, e, ?_⟩
    simp only [cmpD, eqD, h.1, h.2, Bool.and_self, if_true, bok, Bool.not_true]
  · cases h
end K00
namespace K00
open PySem PySem.Spec PyProof.Rows L2 DL
section
variable {A B C D t b u c g h : Int} (w : Law A B C D t b u c g h) {L Nn : PyData} {s2 s3 s4 s5 s6 s7 s14 s15 s16 s17 s18 : Sl}
include w
theorem st14 : exec (cl 5) mt g14 (env (.sh L) (.sh Nn) s2 s3 s4 s5 s6 s7 A B C D (fr t b) (fr u c) s14 s15 s16 s17 s18) = .ok (.next (env (.sh L) (.sh Nn) s2 s3 s4 s5 s6 s7 A B C D (fr t b) (fr u c) s14 s15 s16 s17 s18)) := by
  obtain ⟨b1, b2, b3, b4⟩ := bnds w
  have hbp := w.s.fr.pos
  have hB := w.B1
  have hD := w.D1
  have hA := w.A1
  have hC := w.C1
  have n1 : smallI D = true := small_of (by omega) (by omega)
  have n2 : smallI B = true := small_of (by omega) (by omega)
  have u1 := under_ (d := 2) w.r.st w.r.sb w.s.fr w.r.fr
  have e : decide (A * D < C * B) = decide (t * c < u * b) := by
    have z1 : A * D = g * h * (t * c) := by rw [w.eA, w.eD]; ac_rfl
    have z2 : C * B = g * h * (u * b) := by rw [w.eC, w.eB]; ac_rfl
    rw [z1, z2]
    exact decide_eq_decide.mpr (Int.mul_lt_mul_left (gh w))
  obtain ⟨s, q1, q2⟩ := txt_ok (t := t) (b := b) (by omega) (by omega)
  have q3 := text_ (d := 1) w.s.fr
  rw [q1] at q3
  have q4 : ev (cl 5) (.ite (.cmp .eq (.sub (.var 12) (.int 1)) (.int 1)) (.blt .str (.econs (.sub (.var 12) (.int 0)) (.enil))) (.bin .add (.bin .add (.blt .str (.econs (.sub (.var 12) (.int 0)) (.enil))) (.str "/")) (.blt .str (.econs (.sub (.var 12) (.int 1)) (.enil))))) (env (.sh L) (.sh Nn) s2 s3 s4 s5 s6 s7 A B C D (fr t b) (fr u c) s14 s15 s16 s17 s18) = .ok (.str s) := by
    rw [← q1]
    unfold txt
    by_cases c1 : b = 1
    · subst c1
      simp [ev, sv, bok, tb, ut, cd, p0, p1, eqI]
    · simp [ev, sv, bok, tb, ut, cd, p0, p1, eqI, c1]
      cases bltD .str [.int t] <;> rfl
  rw [show g14 = .ite (.or (.cmp .ne (.call 11 (.econs (.var 12) (.econs (.var 13) (.enil)))) (.cmp .lt (.bin .mul (.var 8) (.var 11)) (.bin .mul (.var 10) (.var 9)))) (.one (.cmp .ne (.call 15 (.econs (.var 12) (.enil))) (.ite (.cmp .eq (.sub (.var 12) (.int 1)) (.int 1)) (.blt .str (.econs (.sub (.var 12) (.int 0)) (.enil))) (.bin .add (.bin .add (.blt .str (.econs (.sub (.var 12) (.int 0)) (.enil))) (.str "/")) (.blt .str (.econs (.sub (.var 12) (.int 1)) (.enil)))))))) (.ret (.bl false)) (.done) (.done) from rfl]
  have q5 : ev (cl 5) (.or (.cmp .ne (.call 11 (.econs (.var 12) (.econs (.var 13) (.enil)))) (.cmp .lt (.bin .mul (.var 8) (.var 11)) (.bin .mul (.var 10) (.var 9)))) (.one (.cmp .ne (.call 15 (.econs (.var 12) (.enil))) (.ite (.cmp .eq (.sub (.var 12) (.int 1)) (.int 1)) (.blt .str (.econs (.sub (.var 12) (.int 0)) (.enil))) (.bin .add (.bin .add (.blt .str (.econs (.sub (.var 12) (.int 0)) (.enil))) (.str "/")) (.blt .str (.econs (.sub (.var 12) (.int 1)) (.enil)))))))) (env (.sh L) (.sh Nn) s2 s3 s4 s5 s6 s7 A B C D (fr t b) (fr u c) s14 s15 s16 s17 s18) = .ok (.bool false) := by
    have a1 : ev (cl 5) (.cmp .ne (.call 11 (.econs (.var 12) (.econs (.var 13) (.enil)))) (.cmp .lt (.bin .mul (.var 8) (.var 11)) (.bin .mul (.var 10) (.var 9)))) (env (.sh L) (.sh Nn) s2 s3 s4 s5 s6 s7 A B C D (fr t b) (fr u c) s14 s15 s16 s17 s18) = .ok (.bool false) := by
      simp [ev, sv, bok, ut, cd, u1, mulT n1, mulT n2, ltI, e, neB]
    have a2 : ev (cl 5) (.cmp .ne (.call 15 (.econs (.var 12) (.enil))) (.ite (.cmp .eq (.sub (.var 12) (.int 1)) (.int 1)) (.blt .str (.econs (.sub (.var 12) (.int 0)) (.enil))) (.bin .add (.bin .add (.blt .str (.econs (.sub (.var 12) (.int 0)) (.enil))) (.str "/")) (.blt .str (.econs (.sub (.var 12) (.int 1)) (.enil)))))) (env (.sh L) (.sh Nn) s2 s3 s4 s5 s6 s7 A B C D (fr t b) (fr u c) s14 s15 s16 s17 s18) = .ok (.bool false) := by
      have a3 : ev (cl 5) (.call 15 (.econs (.var 12) (.enil))) (env (.sh L) (.sh Nn) s2 s3 s4 s5 s6 s7 A B C D (fr t b) (fr u c) s14 s15 s16 s17 s18) = .ok (.str s) := by
        simp [ev, sv, bok, ut, cd, q3]
      rw [ev, a3, bok, q4, bok, q2, bok]
    rw [ev, a1, bok, tb, bok, if_neg Bool.false_ne_true, ev, a2]
  rw [DL.exec, q5, bok, tb, bok, if_neg Bool.false_ne_true, DL.exec, nok, DL.exec]
theorem refuse2 : cl 5 22 [.int 2, fr t b, fr 0 1] = .ok (.bool true) := by
  have o : cl 4 8 [fr t b, fr 0 1] = .ex 1 := by
    show fin (exec (cl 3) mt b8 (DL.envOf 2 [fr t b, fr 0 1])) = _
    simp [b8, DL.exec, ev, DL.envOf, sv, bok, nok, bex, tb, p0, eqI, fin, R.next]
  show fin (exec (cl 4) mt b22 (DL.envOf 3 [.int 2, fr t b, fr 0 1])) = _
  simp [b22, DL.exec, exq, ev, DL.envOf, sv, bok, bex, tb, ut, cd, eqI, o, tryD, exh, mt, mtab, neI, R.noEx, tryO, fin]
end
noncomputable abbrev ck : Nat → List PyData → R PyData := callT T (runK T bs mt 5)
def yesB (r : R PyData) (b : Bool) : Bool := match r with
  | .ok (.bool x) => x == b
  | _ => false
theorem yesB_ok {r : R PyData} {b : Bool} (h : yesB r b = true) : r = .ok (.bool b) := by
  unfold yesB at h
  split at h
  · rw [eq_of_beq h]
  · cases h
abbrev things : List PyData := [.none, fr 1 0, fr 1 (-2), fr 2 4, .list [.int 1, .int 2], .tuple [.bool true, .int 2], .tuple [.int 1], .int 3]
theorem th_all : (things.all fun x => yesB (ck 3 [x]) false) = true := by decide +kernel
theorem r0_all : ([PyData.int 0, .none, .bool true].all fun x => yesB (ck 22 [.int 0, .int 1, x]) true) = true := by decide +kernel
theorem r1_all : ([PyData.int (-1), .int 1001, .none].all fun x => yesB (ck 22 [.int 1, x, .none]) true) = true := by decide +kernel
theorem cl_ck : cl 5 = ck := by
  show callT T (runs T bs mt 5) = callT T (runK T bs mt 5)
  rw [runs_runK]
end K00
namespace K00
open PySem PySem.Spec PyProof.Rows L2 DL
theorem sub_in {xs : List PyData} {i : Int} {n : Nat} (hn : xs.length = n) (h0 : 0 ≤ i) (h1 : i < n) : ∃ x ∈ xs, subD (.tuple xs) (.int i) = .ok x := by
  obtain ⟨k, rfl⟩ : ∃ k : Nat, i = Int.ofNat k := ⟨i.toNat, by simp; omega⟩
  have hk : k < xs.length := by
    have h1 : (k : Int) < n := h1
    omega
  refine ⟨xs[k], List.getElem_mem _, ?_⟩
  show (match xs[k]? with
    | some d => R.ok d
    | none => R.bad) = _
  rw [List.getElem?_eq_getElem hk]
section
variable {A B C D t b u c g h : Int} (w : Law A B C D t b u c g h) {L Nn : PyData}
theorem st15 {one two : PyData} {N P Q : Int} {s3 s4 s5 s6 s14 s15 : PyData} {s : Sl} (hs : s = .un ∨ ∃ d, s = .sh d) :
    exec (cl 5) mt g15 (env (.sh L) (.sh Nn) (.sh (.int N)) s (.sh s4) (.sh s5) (.sh s6) .un A B C D one two (.sh (.int P)) (.sh (.int Q)) .un .un .un) =
      .ok (.next (env (.sh L) (.sh Nn) (.sh (.int N)) s (.sh s4) (.sh s5) (.sh s6) (.sh (.tuple things)) A B C D one two (.sh (.int P)) (.sh (.int Q)) .un .un .un)) := by
  rcases hs with rfl | ⟨d, rfl⟩ <;>
  simp [g15, env, DL.exec, ev, sv, bok, hideAt, give, cd, ngI, lstD, things]
include w in
theorem st16 {v15 v16 v17 : Int} {s2 s3 s4 s5 s6 s14 s15 s16 s17 s18 : Sl} (h15 : subD Nn (.int 15) = .ok (.int v15)) (h16 : subD Nn (.int 16) = .ok (.int v16)) (h17 : subD Nn (.int 17) = .ok (.int v17)) :
    exec (cl 5) mt g16 (env (.sh L) (.sh Nn) s2 s3 s4 s5 s6 (.sh (.tuple things)) A B C D (fr t b) (fr u c) s14 s15 s16 s17 s18) = .ok (.ret (.bool true)) := by
  obtain ⟨y1, m1, q1⟩ := sub_in (xs := things) (i := v15 % 8) (n := 8) rfl (by omega) (by omega)
  obtain ⟨y2, m2, q2⟩ := sub_in (xs := [PyData.int 0, .none, .bool true]) (i := v16 % 3) (n := 3) rfl (by omega) (by omega)
  obtain ⟨y3, m3, q3⟩ := sub_in (xs := [PyData.int (-1), .int 1001, .none]) (i := v17 % 3) (n := 3) rfl (by omega) (by omega)
  have r1 : cl 5 3 [y1] = .ok (.bool false) := by rw [cl_ck]; exact yesB_ok (List.all_eq_true.mp th_all y1 m1)
  have r2 : cl 5 22 [.int 0, .int 1, y2] = .ok (.bool true) := by rw [cl_ck]; exact yesB_ok (List.all_eq_true.mp r0_all y2 m2)
  have r3 : cl 5 22 [.int 1, y3, .none] = .ok (.bool true) := by rw [cl_ck]; exact yesB_ok (List.all_eq_true.mp r1_all y3 m3)
  have r4 := refuse2 w
  have d1 : binD .mod (.int v15) (.int 8) = .ok (.int (v15 % 8)) := mdI (by decide)
  have d2 : binD .mod (.int v16) (.int 3) = .ok (.int (v16 % 3)) := mdI (by decide)
  have d3 : binD .mod (.int v17) (.int 3) = .ok (.int (v17 % 3)) := mdI (by decide)
  simp only [g16, env, DL.exec, ev, sv, bok, tb, ut, cd, ngI, List.getElem?_cons_zero, List.getElem?_cons_succ, h15, h16, h17, d1, d2, d3, q1, q2, q3, r1, r2, r3, r4, Bool.not_false, if_true]
end
theorem st1 {L : PyData} {x0 x1 x2 x3 x4 x5 x6 x7 x8 x9 x10 x11 x12 x13 x14 x15 x16 x17 x18 x19 : Int} :
    exec (cl 5) mt g1 [.sh L, .sh (.list ([x0, x1, x2, x3, x4, x5, x6, x7, x8, x9, x10, x11, x12, x13, x14, x15, x16, x17, x18, x19].map PyData.int)), .un, .un, .un, .un, .un, .un, .un, .un, .un, .un, .un, .un, .un, .un, .un, .un, .un] =
      .ok (.next [.sh L, .sh (.list ([x0, x1, x2, x3, x4, x5, x6, x7, x8, x9, x10, x11, x12, x13, x14, x15, x16, x17, x18, x19].map PyData.int)), .un, .un, .un, .un, .un, .un, .sh (.int (x0 % 90 - 45)), .sh (.int (x1 % 40 + 1)), .sh (.int (x2 % 90 - 45)), .sh (.int (x3 % 40 + 1)), .un, .un, .un, .un, .un, .un, .un]) := by
  have m90 : ∀ y : Int, binD .mod (.int y) (.int 90) = .ok (.int (y % 90)) := fun y => mdI (by decide)
  have m40 : ∀ y : Int, binD .mod (.int y) (.int 40) = .ok (.int (y % 40)) := fun y => mdI (by decide)
  have a0 : ∀ y0 y1 y2 y3 : PyData, ∀ ys : List PyData, subD (.list (y0 :: y1 :: y2 :: y3 :: ys)) (.int 0) = .ok y0 := fun _ _ _ _ _ => rfl
  have a1 : ∀ y0 y1 y2 y3 : PyData, ∀ ys : List PyData, subD (.list (y0 :: y1 :: y2 :: y3 :: ys)) (.int 1) = .ok y1 := fun _ _ _ _ _ => rfl
  have a2 : ∀ y0 y1 y2 y3 : PyData, ∀ ys : List PyData, subD (.list (y0 :: y1 :: y2 :: y3 :: ys)) (.int 2) = .ok y2 := fun _ _ _ _ _ => rfl
  have a3 : ∀ y0 y1 y2 y3 : PyData, ∀ ys : List PyData, subD (.list (y0 :: y1 :: y2 :: y3 :: ys)) (.int 3) = .ok y3 := fun _ _ _ _ _ => rfl
  simp [g1, DL.exec, ev, sv, bok, hideAt, give, cd, unpZ, bindT, bindMany, a0, a1, a2, a3, m90, m40, sbI, adI]
theorem st2 {A B C D t b u c g h : Int} (w : Law A B C D t b u c g h) {L Nn : PyData} :
    exec (cl 5) mt g2 [.sh L, .sh Nn, .un, .un, .un, .un, .un, .un, .sh (.int A), .sh (.int B), .sh (.int C), .sh (.int D), .un, .un, .un, .un, .un, .un, .un] =
      .ok (.next (env (.sh L) (.sh Nn) .un .un .un .un .un .un A B C D (fr t b) (fr u c) .un .un .un .un .un)) := by
  have e1 := lowAB w (d := 4)
  have e2 := lowCD w (d := 4)
  simp [g2, env, DL.exec, ev, sv, bok, ut, hideAt, give, cd, parZ, setMany, e1, e2]
theorem body {L : PyData} {bs' : List Int} (hl : bs'.length = 20) : exec (cl 5) mt (g1.thn (g2.thn (g3.thn (g4.thn (g5.thn (g6.thn (g7.thn (g8.thn (g9.thn (g10.thn (g11.thn (g12.thn (g13.thn (g14.thn (g15.thn g16)))))))))))))))
    [.sh L, .sh (.list (bs'.map PyData.int)), .un, .un, .un, .un, .un, .un, .un, .un, .un, .un, .un, .un, .un, .un, .un, .un, .un] = .ok (.ret (.bool true)) := by
  match bs', hl with
  | [x0, x1, x2, x3, x4, x5, x6, x7, x8, x9, x10, x11, x12, x13, x14, x15, x16, x17, x18, x19], _ =>
    obtain ⟨t, b, u, c, g, h, w⟩ := law_of (A := x0 % 90 - 45) (B := x1 % 40 + 1) (C := x2 % 90 - 45) (D := x3 % 40 + 1) (by omega) (by omega) (by omega) (by omega)
    rw [exec_thn, st1, nok, exec_thn, st2 w, nok, exec_thn, st3 w, nok, exec_thn, st4 w, nok, exec_thn, st5 w, nok, exec_thn, st6 (v := x4) rfl, nok, exec_thn, st7, nok]
    obtain ⟨n, en, hn⟩ : ∃ n : Nat, x4 % 12 = n ∧ n ≤ 50 := ⟨(x4 % 12).toNat, by omega, by omega⟩
    rw [en]
    obtain ⟨s, hs, e8⟩ := st8 w hn (L := L) (Nn := .list ([x0, x1, x2, x3, x4, x5, x6, x7, x8, x9, x10, x11, x12, x13, x14, x15, x16, x17, x18, x19].map PyData.int)) (two := fr u c)
    rw [exec_thn, e8, nok, exec_thn, st9 w hn, nok]
    obtain ⟨r0, r1, r2, r3, q0, q1, q2, q3, e10⟩ := st10 (A := x0 % 90 - 45) (B := x1 % 40 + 1) (C := x2 % 90 - 45) (D := x3 % 40 + 1) (L := L) (Nn := .list ([x0, x1, x2, x3, x4, x5, x6, x7, x8, x9, x10, x11, x12, x13, x14, x15, x16, x17, x18, x19].map PyData.int)) (one := fr t b) (two := fr u c) (N := n) (P := t ^ n) (Q := b ^ n) (y0 := x5) (y1 := x6) (y2 := x7) (y3 := x8) (z0 := x10) (z1 := x11) (z2 := x12) (z3 := x13) rfl rfl rfl rfl rfl rfl rfl rfl hs
    have hx : ∀ y ∈ [r0, r1, r2, r3], isSm y := fun y hy => by
      simp only [List.mem_cons, List.not_mem_nil, or_false] at hy
      rcases hy with rfl | rfl | rfl | rfl
      · exact q0
      · exact q1
      · exact q2
      · exact q3
    rw [exec_thn, e10, nok, exec_thn, st11 (x := r0) (xs := [r1, r2, r3]) (show 4 ≤ 50 by decide) hx hs, nok, exec_thn, st12 (x := r0) (xs := [r1, r2, r3]) (show 4 ≤ 50 by decide) hx hs, nok, exec_thn, st13 (x := r0) (xs := [r1, r2, r3]) (show 4 ≤ 50 by decide) hx, nok, exec_thn, st14 w, nok, exec_thn, st15 (s3 := .none) (s14 := .none) (s15 := .none) hs, nok]
    exact st16 w (v15 := x15) (v16 := x16) (v17 := x17) rfl rfl rfl
end K00
namespace K00
open PySem PySem.Spec PyProof.Rows L2 DL
theorem call16 {ns : List Int} : ∃ c : Int, cl 5 16 [locked (ns.map PyData.int), .int 0] = .ok (.int c) := by
  obtain ⟨c, e⟩ := cell_ok (cl 4) mt (ns := ns) (k := 0)
  refine ⟨c, ?_⟩
  show fin (exec (cl 4) mt cellIR (DL.envOf 2 [locked (ns.map PyData.int), .int 0])) = _
  exact congrArg fin e
theorem call17 (c : Int) : ∃ bs' : List Int, bs'.length = 20 ∧ cl 5 17 [.int c, .int 20] = .ok (.list (bs'.map PyData.int)) := by
  obtain ⟨bs', l, e⟩ := draws_ok (cl 4) mt (c := c) (n := 20) (by decide)
  refine ⟨bs', l, ?_⟩
  show fin (exec (cl 4) mt drawsIR (DL.envOf 6 [.int c, .int 20])) = _
  exact congrArg fin e
theorem plain (ns : List Int) : run 23 [locked (ns.map PyData.int)] = .ok (.bool true) := by
  obtain ⟨c, hc⟩ := call16 (ns := ns)
  obtain ⟨bs', hl, hd⟩ := call17 c
  have e0 : exec (cl 5) mt g0 (DL.envOf 19 [locked (ns.map PyData.int)]) = .ok (.next ((DL.envOf 19 [locked (ns.map PyData.int)]).set 1 (.sh (.list (bs'.map PyData.int))))) := by
    have q : ev (cl 5) (.call 17 (.econs (.call 16 (.econs (.var 0) (.econs (.int 0) (.enil)))) (.econs (.int 20) (.enil)))) (hideAt [] 0 (DL.envOf 19 [locked (ns.map PyData.int)])) = .ok (.list (bs'.map PyData.int)) := by
      have q1 : ev (cl 5) (.call 16 (.econs (.var 0) (.econs (.int 0) (.enil)))) (hideAt [] 0 (DL.envOf 19 [locked (ns.map PyData.int)])) = .ok (.int c) := hc
      simp only [ev] at q1 ⊢
      rw [q1]
      exact hd
    unfold g0
    simp only [DL.exec]
    rw [q]
    rfl
  have e1 : exec (cl 5) mt b23 (DL.envOf 19 [locked (ns.map PyData.int)]) = .ok (.ret (.bool true)) := by
    show exec (cl 5) mt (g0.thn _) _ = _
    rw [exec_thn, e0]
    exact body hl
  show fin (exec (cl 5) mt b23 (DL.envOf 19 [locked (ns.map PyData.int)])) = _
  rw [e1]
  rfl
theorem facts {P : Program} {w : World} {K : PySem.W.Frag} {h : Heap} {mg : Str → Option Value} {g : Addr} (X : K.In h) (G : h.Ns mainGlobals mg) (hg : mg ("law" : Str) = some (.ref g)) (c : He.SaysD fa fn K) (cx : ex K = true) :
    ∃ (fd : FuncData) (sp : Sp), (∀ (s : Shared) (u : Value), BindsTo s fd ⟨[u], []⟩ [("script", u)]) ∧ (∀ (H : Hp) (a : Addr) (ns : List Int), SqL K H a (ns.map V.int) → sp [.ref a] H (fun v _ => v = .bl true) fun _ _ _ => False) ∧
      ∀ base : Heap, K.In base → base.Ns mainGlobals mg → FnOk P w K mg base CX0 6 g fd ["script"] sp := by
  obtain ⟨fd, F⟩ := c.def_ 23 (d := d23) rfl
  have b := FunD.bindsA (ps := ["script"]) F fun _ _ _ _ _ _ us hl => match us, hl with | [_], _ => rfl
  have at_ := He.glo_ok X G (c.fact 23 (f := .glo "law") rfl)
  have ff : FnFact K mg T bs 23 ⟨"law", ["script"], []⟩ _ fd := ⟨at_, bind_plain rfl (F.bindsN fun _ _ _ _ _ _ us hl => match us, hl with | [_], _ => rfl), n23, b23, _, _, _, _, _, _, F, s23, rfl, c23⟩
  have e := hg.symm.trans at_
  cases e
  refine ⟨fd, _, fun s u => b s [u] rfl, fun H a ns hS => ?_, fun base _ _ => fn_quiet (fn_all (tab X G c cx) 6 23 ⟨"law", ["script"], []⟩ _ fd rfl ff)⟩
  exact law_says hS (plain ns)
end K00
open PySem PySem.W PySem.Calls PyProof.Rows
theorem PySem.Challenge.cw_chanceworks_k00_fractions_holds : PySem.Challenge.rw_chanceworks_k00_fractions.Holds := by
  w_on; o_law
  refine HandSHeadRun.head_any (r := OpenLaw.row PySem.Challenge.rw_chanceworks_k00_fractions) (q := view (OpenLaw.row PySem.Challenge.rw_chanceworks_k00_fractions).prog [31]) (H := K00.hk) (ob := K00.ob) (M := 6000) (loose := K00.loose) (d := HandSHeadRun.topDef (OpenLaw.row PySem.Challenge.rw_chanceworks_k00_fractions).prog 31) (kwd := []) K00.ob_eq
    (by kernel_rfl) (fun s => by kernel_rfl) K00.runE (by kernel_rfl) (by kernel_rfl) (by kernel_rfl) (by rfl) (by first | assumption | decide +kernel) (by decide +kernel) ⟨rfl, rfl, rfl, rfl, rfl, by decide +kernel⟩ ?hw ?hc
  case hw => w_witness2
  case hc =>
    refine L2.walk_ofE (l := PySem.Challenge.rw_chanceworks_k00_fractions) (n := 63) (k := 6) (x := "script") (CX := L2.CX0) rfl (by decide) (by kernel_rfl) ⟨rfl, by decide, by decide⟩ ?F (fun _ _ _ _ z => z)
    intro w mg fa h Y G hmg0
    obtain ⟨K, KX, c⟩ := Y
    have hmg : mg ("law" : PySem.Str) = some (.ref fa) := by
      have e : (HandSHeadRun.topDef (OpenLaw.row PySem.Challenge.rw_chanceworks_k00_fractions).prog 31).name = ("law" : PySem.Str) := by kernel_rfl
      rw [← e]
      exact hmg0
    obtain ⟨fd, sp, hb, hs, hF⟩ := K00.facts (P := (PySem.Challenge.rw_chanceworks_k00_fractions).prog) (w := w) KX G hmg c.t.d c.more
    exact ⟨K, fd, sp, KX, hb, fun H a ns _ _ hS => hs H a ns hS, hF⟩
